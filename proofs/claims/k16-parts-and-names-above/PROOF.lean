import PyProof.Rows.All
import HandS.ForMost
import HandS.ForExc
import HandS.Walk
import HandS.TupAny
import HandS.TupMul
import HandS.Wide
import HandS.IsInst
import PyProof.Rows.RuleB_pow
import PyProof.P3In
import PyProof.ReprRoads
import HandS.Flow
import HandS.NoneIn
import HandS.Spec
import KE.KUnpackStar
import HandS.Words
import HandS.Codes
import HandS.Ends
import HandS.EndBits
import PySem.Challenge.RW_likebeneath_k16_parts_and_names_above
set_option Elab.async false
set_option linter.all false
set_option maxRecDepth 10000
/-! VS, part A: data, the small language, its interpreter. -/
namespace VS
open PySem

/-- a value: data by value; a mutable object by its number; a global by its name -/
inductive D where
  | non | bl (b : Bool) | int (i : Int) | str (s : Str)
  | tup (xs : List D) | lst (xs : List D)
  | dic (ks vs : List D) | set (xs : List D)
  | ref (n : Nat) | glo (x : Str) | ty (n : String)
  /-- the law's own list of whole numbers -/
  | scr (ns : List Int)
  deriving Inhabited

/-- how a cell stands: it may change; it is being walked; it never changes again -/
inductive Lk where
  | mu | lk | fz
  deriving DecidableEq

structure Cell where
  lk : Lk
  c : D

abbrev Cells := List Cell

structure Exn where
  cls : Str
  args : List D

inductive R (α : Type) where
  | ok (a : α) (S : Cells)
  | exn (x : Exn) (S : Cells)
  | stuck

def R.bind {α β : Type} (r : R α) (f : α → Cells → R β) : R β :=
  match r with
  | .ok a S => f a S
  | .exn x S => .exn x S
  | .stuck => .stuck

theorem R.bind_ok {α β : Type} (a : α) (S : Cells) (f : α → Cells → R β) : (R.ok a S).bind f = f a S := rfl
theorem R.bind_exn {α β : Type} (x : Exn) (S : Cells) (f : α → Cells → R β) : (R.exn x S : R α).bind f = .exn x S := rfl
theorem R.bind_stuck {α β : Type} (f : α → Cells → R β) : (R.stuck : R α).bind f = .stuck := rfl

/-- from a decided condition -/
def R.need {α : Type} (c : Bool) (r : R α) : R α := if c then r else .stuck
theorem R.need_true {α : Type} (r : R α) : R.need true r = r := rfl

/-- the longest list or text -/
abbrev line : Nat := 16777216

/-! ### data -/
mutual
/-- data that == can compare here -/
def D.dat : D → Bool
  | .non | .bl _ | .int _ => true
  | .str s => PyData.strOk s
  | .tup xs | .lst xs => D.dats xs
  | _ => false
def D.dats : List D → Bool
  | [] => true
  | x :: xs => x.dat && D.dats xs
end

mutual
/-- how deep -/
def D.dep : D → Nat
  | .tup xs | .lst xs => D.deps xs + 1
  | _ => 0
def D.deps : List D → Nat
  | [] => 0
  | x :: xs => max x.dep (D.deps xs)
end

mutual
/-- Python's == on data -/
def eqD : D → D → Bool
  | .non, e => match e with | .non => true | _ => false
  | .bl a, e => match e with | .bl b => a == b | .int j => (if a then 1 else 0) == j | _ => false
  | .int i, e => match e with | .int j => i == j | .bl b => i == (if b then 1 else 0) | _ => false
  | .str x, e => match e with | .str y => x == y | _ => false
  | .tup xs, e => match e with | .tup ys => eqDs xs ys | _ => false
  | .lst xs, e => match e with | .lst ys => eqDs xs ys | _ => false
  | _, _ => false
def eqDs : List D → List D → Bool
  | [], e => match e with | [] => true | _ :: _ => false
  | x :: xs, e => match e with | y :: ys => eqD x y && eqDs xs ys | [] => false
end

mutual
/-- data as the library's data -/
def D.py : D → PyData
  | .bl b => .bool b
  | .int i => .int i
  | .str s => .str s
  | .tup xs => .tuple (D.pys xs)
  | .lst xs => .list (D.pys xs)
  | _ => .none
def D.pys : List D → List PyData
  | [] => []
  | x :: xs => x.py :: D.pys xs
end
/-- data whose text is told -/
def D.rp (d : D) : Bool := d.dat && d.py.showable && decide (d.dep ≤ 64) && decide (d.py.shown.length ≤ line)

/-- a thing that == compares by itself alone -/
def D.flat : D → Bool
  | .non | .bl _ | .int _ | .str _ => true
  | _ => false

/-- the value by its cell -/
def val (S : Cells) : D → Option D
  | .ref n => (S[n]?).map (·.c)
  | d => some d

/-- made part of something else: its cell never changes again -/
def frz (d : D) (S : Cells) : R D :=
  match d with
  | .ref n => match S[n]? with
    | some ⟨.lk, _⟩ => .stuck
    | some ⟨_, .lst xs⟩ => .ok (.lst xs) (S.set n ⟨.fz, .lst xs⟩)
    | _ => .stuck
  | d => .ok d S
def frzs : List D → Cells → R (List D)
  | [], S => .ok [] S
  | d :: ds, S => (frz d S).bind fun e S => (frzs ds S).bind fun es S => .ok (e :: es) S

/-- a new list -/
def newL (xs : List D) (S : Cells) : R D := .ok (.ref S.length) (S ++ [⟨.mu, .lst xs⟩])

/-- back to so many cells: what is told of the new ones goes to the first new place -/
def norm (n : Nat) : R D → R D
  | .ok (.ref m) S => if m < n then .ok (.ref m) (S.take n) else match S[m]? with
    | some c => .ok (.ref n) (S.take n ++ [c])
    | none => .stuck
  | .ok d S => .ok d (S.take n)
  | .exn x S => .exn x (S.take n)
  | .stuck => .stuck

/-- truth -/
def truth (S : Cells) (d : D) : Option Bool :=
  match val S d with
  | some .non => some false
  | some (.bl b) => some b
  | some (.int i) => some (i != 0)
  | some (.str s) => if s.length ≤ line then some ((s.length : Int) != 0) else none
  | some (.tup xs) => some (!xs.isEmpty)
  | some (.lst xs) => some (!xs.isEmpty)
  | _ => none
def truthR (d : D) (S : Cells) (f : Bool → R D) : R D :=
  match truth S d with
  | some b => f b
  | none => .stuck

/-! ### the language -/
inductive Bop where
  | add | sub | mul | fdiv | mod | pow
  deriving DecidableEq
inductive Cop where
  | eq | ne | lt | le | gt | ge | isin | notin | isN | notN
  deriving DecidableEq

/-- built-in functions and types that are called -/
inductive Blt where
  | len | range1 | range2 | tuple | list | int | sorted | all | any | sum | abs | str | repr | min2 | max2 | max1 | maxD | set0 | setOf
  deriving DecidableEq
inductive Mth where
  | append | extend | pop0 | pop1 | reverse | join
  deriving DecidableEq

inductive Tg where
  | v (i : Nat)
  | tup (is : List Nat)
  deriving DecidableEq

mutual
inductive Ex where
  | k (d : D)
  | v (i : Nat)
  | g (x : Str)
  | tup (es : Exs) | lst (es : Exs)
  | bin (op : Bop) (a b : Ex)
  | neg (a : Ex)
  | cmp (op : Cop) (a b : Ex)
  | chain (o p : Cop) (a b c : Ex)
  | and (a b : Ex) | or (a b : Ex) | not (a : Ex)
  | ite (t a b : Ex)
  | ix (a i : Ex)
  | int1 (a : Ex)
  | sl (a lo hi : Ex)
  | isi (a : Ex) (t : String)
  | call (f : Str) (es : Exs)
  | callv (f : Ex) (es : Exs)
  | callk (f : Str) (pm : List Nat) (es : Exs)
  | blt (b : Blt) (es : Exs)
  | mth (m : Mth) (a : Ex) (es : Exs)
  | lc (elt : Ex) (w : List Nat) (tg : Tg) (it : It) (ifs : Exs)
  | lc2 (elt : Ex) (w w1 : List Nat) (tg : Tg) (it : It) (ifs : Exs) (tg1 : Tg) (it1 : It) (ifs1 : Exs)
inductive Exs where
  | nil
  | cons (e : Ex) (es : Exs)
/-- what is walked -/
inductive It where
  | seq (e : Ex)
  | rng1 (a : Ex) | rng2 (a b : Ex)
  | enum (e : Ex)
  | zip (a b : Ex)
  | rev (e : Ex)
end

/-! ### operations -/
def mulOk (i j : Int) : Bool := decide (Builtin.Int.intBits i ≤ 64) || decide (Builtin.Int.intBits j ≤ 64) || decide (Builtin.Int.intBits i + Builtin.Int.intBits j ≤ 100000000)
def powOk (i n : Int) : Bool := decide (0 ≤ n) && decide ((Builtin.Int.intBits i : Int) * n ≤ 134217728)
def divOk (j : Int) : Bool := decide (0 < j) && decide (j.natAbs.log2 < 9000)
def rep {α : Type} (xs : List α) (n : Nat) : List α := (List.replicate n xs).flatten

/-- a op b of values -/
def binV (op : Bop) (x y : D) (S : Cells) : R D :=
  match op, x, y with
  | .add, .int i, .int j => .ok (.int (i + j)) S
  | .sub, .int i, .int j => .ok (.int (i - j)) S
  | .mul, .int i, .int j => .need (mulOk i j) (.ok (.int (i * j)) S)
  | .fdiv, .int i, .int j => .need (divOk j) (.ok (.int (i / j)) S)
  | .mod, .int i, .int j => .need (decide (0 < j)) (.ok (.int (i % j)) S)
  | .pow, .int i, .int j => .need (powOk i j) (.ok (.int (i ^ j.toNat)) S)
  | .add, .str a, .str b => .need (decide (a.length + b.length ≤ line)) (.ok (.str (a ++ b)) S)
  | .add, .lst a, .lst b => .need (decide (a.length + b.length ≤ line)) (newL (a ++ b) S)
  | .add, .tup a, .tup b => .need (decide (a.length + b.length ≤ line)) (.ok (.tup (a ++ b)) S)
  | .mul, .lst a, .int j => .need (decide (j < 9223372036854775808) && decide (-9223372036854775808 ≤ j) && decide (a.length * j.toNat ≤ line)) (newL (rep a j.toNat) S)
  | .mul, .tup a, .int j => .need (!a.isEmpty && decide (2 ≤ j) && decide (j ≤ 1000) && decide (a.length ≤ 1000)) (.ok (.tup (rep a j.toNat)) S)
  | _, _, _ => .stuck
/-- with the operands by their cells -/
def both (x y : D) (S : Cells) (f : D → D → R D) : R D :=
  match val S x, val S y with
  | some a, some b => f a b
  | _, _ => .stuck
def one (x : D) (S : Cells) (f : D → R D) : R D :=
  match val S x with
  | some a => f a
  | none => .stuck

/-- order of texts -/
def strLt (a b : Str) : Bool := decide (a.cps.toList < b.cps.toList)
/-- x in y -/
def inV (x y : D) : Option Bool :=
  match y with
  | .lst ys => if x.flat && ys.all D.flat then some (ys.any fun z => eqD z x) else if x.dat && D.dats ys && decide (x.dep ≤ 64) then some (ys.any fun z => eqD z x) else none
  | .tup ys => if x.flat && ys.all D.flat then some (ys.any fun z => eqD z x) else if x.dat && D.dats ys && decide (x.dep ≤ 64) then some (ys.any fun z => eqD z x) else none
  | .str t => match x with
    | .str s => match s.cps.toList with
      | [c] => some (decide (c ∈ t.cps.toList))
      | _ => none
    | _ => none
  | _ => none
def bR (o : Option Bool) (S : Cells) : R D :=
  match o with
  | some b => .ok (.bl b) S
  | none => .stuck
def eqV (x y : D) : Option Bool :=
  if x.flat && y.flat then some (eqD x y) else if x.dat && y.dat && (decide (x.dep ≤ 64) || decide (y.dep ≤ 64)) then some (eqD x y) else none
def ltV (x y : D) : Option Bool :=
  match x, y with
  | .int i, .int j => some (decide (i < j))
  | .str a, .str b => some (strLt a b)
  | _, _ => none
def leV (x y : D) : Option Bool :=
  match x, y with
  | .int i, .int j => some (decide (i ≤ j))
  | _, _ => none
def cmpV (op : Cop) (x y : D) : Option Bool :=
  match op with
  | .eq => eqV x y
  | .ne => (eqV x y).map (!·)
  | .lt => ltV x y
  | .le => leV x y
  | .gt => match x, y with | .int i, .int j => some (decide (j < i)) | _, _ => none
  | .ge => match x, y with | .int i, .int j => some (decide (j ≤ i)) | _, _ => none
  | .isin => inV x y
  | .notin => (inV x y).map (!·)
  | .isN => match y, x with
    | .non, .non => some true
    | .non, .ref _ => some false
    | .non, .bl _ => some false | .non, .int _ => some false | .non, .str _ => some false | .non, .tup _ => some false | .non, .lst _ => some false
    | _, _ => none
  | .notN => match y, x with
    | .non, .non => some false
    | .non, .ref _ => some true
    | .non, .bl _ => some true | .non, .int _ => some true | .non, .str _ => some true | .non, .tup _ => some true | .non, .lst _ => some true
    | _, _ => none

/-- the place of i among n -/
def atN (n : Nat) (i : Int) : Option Nat := if 0 ≤ i then (if i.toNat < n then some i.toNat else none) else if 0 ≤ i + n then some (i + n).toNat else none
/-- x[i] -/
def ixV (x i : D) (S : Cells) : R D :=
  match x, i with
  | .tup xs, .int i => match atN xs.length i with | some j => (match xs[j]? with | some d => .ok d S | none => .stuck) | none => .stuck
  | .lst xs, .int i => match atN xs.length i with | some j => (match xs[j]? with | some d => .ok d S | none => .stuck) | none => .stuck
  | .str s, .int i => .need (decide (s.length ≤ line)) (match atN s.cps.toList.length i with | some j => (match s.cps.toList[j]? with | some c => .ok (.str ⟨#[c]⟩) S | none => .stuck) | none => .stuck)
  | _, _ => .stuck
/-- a slice's bound -/
def bnd (n d : Nat) : D → Option Nat
  | .non => some d
  | .int v => some (if v < 0 then (v + (n : Int)).toNat else min v.toNat n)
  | _ => none
def cut {α : Type} (xs : List α) (i j : Nat) : List α := (xs.drop i).take (j - i)
def slV (x lo hi : D) (S : Cells) : R D :=
  match x with
  | .tup xs => match bnd xs.length 0 lo, bnd xs.length xs.length hi with | some i, some j => .ok (.tup (cut xs i j)) S | _, _ => .stuck
  | .lst xs => match bnd xs.length 0 lo, bnd xs.length xs.length hi with | some i, some j => newL (cut xs i j) S | _, _ => .stuck
  | .scr ns => match bnd ns.length 0 lo, bnd ns.length ns.length hi with | some i, some j => newL (cut (ns.map D.int) i j) S | _, _ => .stuck
  | .str s => .need (decide (s.length ≤ line)) (match bnd s.cps.toList.length 0 lo, bnd s.cps.toList.length s.cps.toList.length hi with | some i, some j => .ok (.str ⟨(cut s.cps.toList i j).toArray⟩) S | _, _ => .stuck)
  | _ => .stuck

def tyOf : D → Option String
  | .non => some "NoneType" | .bl _ => some "bool" | .int _ => some "int" | .str _ => some "str" | .tup _ => some "tuple" | .lst _ => some "list"
  | .dic _ _ => some "dict" | .set _ => some "set"
  | _ => none
def isiV (t : String) (d : D) : Option Bool :=
  match tyOf d with
  | some u => some (u == t || (u == "bool" && t == "int"))
  | none => none

def intsD : List D → Option (List Int)
  | [] => some []
  | .int i :: r => (intsD r).map (i :: ·)
  | _ => none
def strsD : List D → Option (List Str)
  | [] => some []
  | .str s :: r => (strsD r).map (s :: ·)
  | _ => none
def boolsD : List D → Option (List Bool)
  | [] => some []
  | .bl b :: r => (boolsD r).map (b :: ·)
  | _ => none
def insI (i : Int) : List Int → List Int
  | [] => [i]
  | j :: r => if i ≤ j then i :: j :: r else j :: insI i r
def sortI : List Int → List Int
  | [] => []
  | i :: r => insI i (sortI r)
def strLe (a b : Str) : Bool := !strLt b a
def insS (i : Str) : List Str → List Str
  | [] => [i]
  | j :: r => if strLe i j then i :: j :: r else j :: insS i r
def sortS : List Str → List Str
  | [] => []
  | i :: r => insS i (sortS r)
/-- each once, as it came first -/
def once : List Str → List Str
  | [] => []
  | s :: r => s :: (once r).filter (fun t => t != s)
def seqOf : D → Option (List D)
  | .tup xs => some xs
  | .lst xs => some xs
  | _ => none


/-! ### the interpreter -/
abbrev Env := List (Option D)
abbrev CallF := Str → List D → Cells → R D

def R.only {α : Type} : R α → R α
  | .ok a S => .ok a S
  | _ => .stuck

/-- targets -/
def asgs : List Nat → List D → Env → Option Env
  | [], [], ρ => some ρ
  | i :: is, d :: ds, ρ => asgs is ds (ρ.set i (some d))
  | _, _, _ => none
def asg (tg : Tg) (d : D) (ρ : Env) : Option Env :=
  match tg with
  | .v i => some (ρ.set i (some d))
  | .tup is => match d with
    | .tup ds => asgs is ds ρ
    | _ => none
def wipeE (ρ : Env) : List Nat → Env
  | [] => ρ
  | v :: vs => (wipeE ρ vs).set v none

/-- a walk: what comes, and which cell is held meanwhile -/
abbrev Walked := List D × Option Nat
def hold (n : Nat) (d : D) (S : Cells) : R Walked :=
  match d with
  | .ref m => match S[m]? with
    | some ⟨.mu, .lst xs⟩ => if m < n then .ok (xs, some m) ((S.take n).set m ⟨.lk, .lst xs⟩) else .ok (xs, none) (S.take n)
    | some ⟨_, .lst xs⟩ => .ok (xs, none) (S.take n)
    | _ => .stuck
  | .lst xs => .ok (xs, none) (S.take n)
  | .tup xs => .ok (xs, none) (S.take n)
  | .str s => .ok (s.cps.toList.map fun c => D.str ⟨#[c]⟩, none) (S.take n)
  | _ => .stuck
def free (o : Option Nat) (S : Cells) : Option Cells :=
  match o with
  | none => some S
  | some m => match S[m]? with
    | some ⟨.lk, c⟩ => some (S.set m ⟨.mu, c⟩)
    | _ => none
/-- as hold, of a list alone -/
def holdL (n : Nat) (d : D) (S : Cells) : R Walked :=
  match d with
  | .ref _ => hold n d S
  | .lst _ => hold n d S
  | _ => .stuck
def rngD (lo : Int) (n : Nat) : List D := (List.range n).map fun (i : Nat) => D.int (lo + i)
def enumD (xs : List D) : List D := (List.range xs.length).map fun (i : Nat) => D.tup [.int i, xs.getD i .non]
def zipD (xs ys : List D) : List D := (List.range (min xs.length ys.length)).map fun (i : Nat) => D.tup [xs.getD i .non, ys.getD i .non]
def Walked.map (f : List D → List D) (w : Walked) : Walked := (f w.1, w.2)

/-- one turn after another; what each gives is joined -/
def turns (f : D → Cells → R (List D)) : List D → Cells → R (List D)
  | [], S => .ok [] S
  | x :: xs, S => (f x S).bind fun ys S => (turns f xs S).bind fun zs S => .ok (ys ++ zs) S
/-- a comprehension's end -/
def comp (n : Nat) (w : Walked) (f : D → Cells → R (List D)) (S : Cells) : R D :=
  (turns f w.1 S).bind fun ys S => match free w.2 S with
    | some S => .need (decide (ys.length ≤ line)) (newL ys (S.take n))
    | none => .stuck

/-- what an item gives -/
def keep (n : Nat) : R D → R (List D)
  | .ok d S => .ok [d] (S.take n)
  | _ => .stuck

/-- a slot -/
def look (ρ : Env) (i : Nat) (S : Cells) : R D :=
  match ρ[i]? with
  | some (some d) => .ok d S
  | _ => .stuck

def bltV (b : Blt) (ds : List D) (S : Cells) : R D :=
  match b, ds with
  | .len, [x] => one x S fun x => match x with
    | .lst xs => .ok (.int xs.length) S
    | .tup xs => .ok (.int xs.length) S
    | .str s => .need (decide (s.length ≤ line)) (.ok (.int s.length) S)
    | _ => .stuck
  | .tuple, [x] => one x S fun x => match x with
    | .lst xs => .ok (.tup xs) S
    | .tup xs => .ok (.tup xs) S
    | _ => .stuck
  | .list, [x] => one x S fun x => match x with
    | .lst xs => newL xs S
    | .tup xs => newL xs S
    | _ => .stuck
  | .repr, [x] => one x S fun x => match seqOf x with
    | some _ => .need x.rp (.ok (.str x.py.shown) S)
    | none => .stuck
  | .int, [.int i] => .ok (.int i) S
  | .int, [.bl b] => .ok (.int (if b then 1 else 0)) S
  | .abs, [.int i] => .ok (.int (if i < 0 then -i else i)) S
  | .min2, [.int i, .int j] => .ok (.int (if j < i then j else i)) S
  | .max2, [.int i, .int j] => .ok (.int (if j > i then j else i)) S
  | .all, [x] => one x S fun x => match x with
    | .lst xs => match boolsD xs with
      | some bs => .ok (.bl (bs.all id)) S
      | none => .stuck
    | _ => .stuck
  | .any, [x] => one x S fun x => match x with
    | .lst xs => match boolsD xs with
      | some bs => .ok (.bl (bs.any id)) S
      | none => .stuck
    | _ => .stuck
  | .sum, [x] => one x S fun x => match x with
    | .lst xs => match intsD xs with
      | some is => .ok (.int is.sum) S
      | none => .stuck
    | _ => .stuck
  | _, _ => .stuck

/-- a list's cell changed -/
def grow (d : D) (S : Cells) (f : List D → R D) (g : List D → List D) : R D :=
  match d with
  | .ref m => match S[m]? with
    | some ⟨.mu, .lst xs⟩ => (f xs).bind fun r _ => .ok r (S.set m ⟨.mu, .lst (g xs)⟩)
    | _ => .stuck
  | _ => .stuck
def mthV (m : Mth) (o : D) (ds : List D) (S : Cells) : R D :=
  match m, ds with
  | .append, [x] => (frz x S).bind fun x S => grow o S (fun xs => .need (decide (xs.length + 1 ≤ line)) (.ok .non S)) (fun xs => xs ++ [x])
  | .extend, [x] => one x S fun x => match x with
    | .lst ys => grow o S (fun xs => .need (decide (xs.length + ys.length ≤ line)) (.ok .non S)) (fun xs => xs ++ ys)
    | _ => .stuck
  | .pop0, [.int i] => if i = 0 then grow o S (fun xs => match xs with | x :: _ => .ok x S | [] => .stuck) (fun xs => xs.tail) else .stuck
  | .reverse, [] => grow o S (fun _ => .ok .non S) List.reverse
  | .join, [x] => match o with
    | .str sep => one x S fun x => match seqOf x with
      | some xs => match strsD xs with
        | some ss => .need (decide ((ss.map (·.length)).sum + ss.length * sep.length ≤ line)) (.ok (.str (Txt.join sep ss)) S)
        | none => .stuck
      | none => .stuck
    | _ => .stuck
  | _, _ => .stuck

/-- a whole number, or nothing goes -/
def intOnly (d : D) (S : Cells) : R D := match d with | .int i => .ok (.int i) S | _ => .stuck

section
variable (Φ : CallF)
mutual
def evE : Ex → Env → Cells → R D
  | .k d, _, S => .ok d S
  | .v i, ρ, S => look ρ i S
  | .g x, _, S => .ok (.glo x) S
  | .tup es, ρ, S => norm S.length ((evEs es ρ S).bind fun ds S => (frzs ds S).bind fun ds S => .need (decide (ds.length ≤ line)) (.ok (.tup ds) S))
  | .lst es, ρ, S => norm S.length ((evEs es ρ S).bind fun ds S => (frzs ds S).bind fun ds S => .need (decide (ds.length ≤ line)) (newL ds S))
  | .bin op a b, ρ, S => norm S.length ((evE a ρ S).bind fun x S => (evE b ρ S).bind fun y S => both x y S fun x y => binV op x y S)
  | .neg a, ρ, S => (evE a ρ S).bind fun x S => match x with | .int i => .ok (.int (-i)) S | _ => .stuck
  | .cmp op a b, ρ, S => norm S.length ((evE a ρ S).bind fun x S => (evE b ρ S).bind fun y S => both x y S fun x y => bR (cmpV op x y) S)
  | .chain o p a b c, ρ, S => norm S.length ((evE a ρ S).bind fun x S => (evE b ρ S).bind fun y S => both x y S fun x' y' => match cmpV o x' y' with
    | some true => (evE c ρ S).bind fun z S => both y z S fun y z => bR (cmpV p y z) S
    | some false => .ok (.bl false) S
    | none => .stuck)
  | .and a b, ρ, S => (evE a ρ S).bind fun x S1 => truthR x S1 fun t => if t then evE b ρ (S1.take S.length) else norm S.length (.ok x S1)
  | .or a b, ρ, S => (evE a ρ S).bind fun x S1 => truthR x S1 fun t => if t then norm S.length (.ok x S1) else evE b ρ (S1.take S.length)
  | .not a, ρ, S => norm S.length ((evE a ρ S).bind fun x S => truthR x S fun t => .ok (.bl (!t)) S)
  | .ite t a b, ρ, S => (norm S.length ((evE t ρ S).bind fun x S => truthR x S fun t => .ok (.bl t) S)).bind fun x S => match x with
    | .bl true => evE a ρ S
    | .bl false => evE b ρ S
    | _ => .stuck
  | .int1 a, ρ, S => (evE a ρ S).bind intOnly
  | .ix a i, ρ, S => norm S.length ((evE a ρ S).bind fun x S => (evE i ρ S).bind fun y S => both x y S fun x y => ixV x y S)
  | .sl a lo hi, ρ, S => norm S.length ((evE a ρ S).bind fun x S => (evE lo ρ S).bind fun l S => (evE hi ρ S).bind fun h S => one x S fun x => slV x l h S)
  | .isi a t, ρ, S => norm S.length ((evE a ρ S).bind fun x S => one x S fun x => bR (isiV t x) S)
  | .call f es, ρ, S => norm S.length ((evEs es ρ S).bind fun ds S => Φ f ds S)
  | .callv f es, ρ, S => norm S.length ((evE f ρ S).bind fun g S => match g with
    | .glo f => (evEs es ρ S).bind fun ds S => Φ f ds S
    | _ => .stuck)
  | .callk f pm es, ρ, S => norm S.length ((evEs es ρ S).bind fun ds S => Φ f (pm.map fun i => ds.getD i .non) S)
  | .blt b es, ρ, S => norm S.length ((evEs es ρ S).bind fun ds S => bltV b ds S)
  | .mth m o es, ρ, S => norm S.length ((evE o ρ S).bind fun x S => (evEs es ρ S).bind fun ds S => mthV m x ds S)
  | .lc elt w tg it ifs, ρ, S => (evI it ρ S).bind fun wk S' => comp S.length wk (fun x S => match asg tg x (wipeE ρ w) with
    | some ρ => ((evTs ifs ρ S).only).bind fun t S1 => if t then keep S.length ((evE elt ρ (S1.take S.length)).bind frz) else .ok [] (S1.take S.length)
    | none => .stuck) S'
  | .lc2 elt w w1 tg it ifs tg1 it1 ifs1, ρ, S => (evI it ρ S).bind fun wk S' => comp S.length wk (fun x S => match asg tg x (wipeE ρ w) with
    | some ρ => ((evTs ifs ρ S).only).bind fun t S1 => if t then ((evI it1 ρ (S1.take S.length)).only).bind fun wk1 S2 => (turns (fun x S => match asg tg1 x (wipeE ρ w1) with
        | some ρ => ((evTs ifs1 ρ S).only).bind fun t S1 => if t then keep S.length ((evE elt ρ (S1.take S.length)).bind frz) else .ok [] (S1.take S.length)
        | none => .stuck) wk1.1 S2).bind fun ys S3 => (match free wk1.2 S3 with | some S4 => .ok ys (S4.take S.length) | none => .stuck)
      else .ok [] (S1.take S.length)
    | none => .stuck) S'
def evEs : Exs → Env → Cells → R (List D)
  | .nil, _, S => .ok [] S
  | .cons e es, ρ, S => (evE e ρ S).bind fun d S => (evEs es ρ S).bind fun ds S => .ok (d :: ds) S
/-- the tests of a comprehension -/
def evTs : Exs → Env → Cells → R Bool
  | .nil, _, S => .ok true S
  | .cons e es, ρ, S => (evE e ρ S).bind fun d S => match truth S d with
    | some true => evTs es ρ S
    | some false => .ok false S
    | none => .stuck
def evI : It → Env → Cells → R Walked
  | .seq e, ρ, S => (evE e ρ S).bind fun d S' => hold S.length d S'
  | .rng1 a, ρ, S => (evE a ρ S).bind fun d S' => match d with
    | .int n => .need (decide (n < 4611686018427387904) && decide (-4611686018427387904 ≤ n)) (.ok (rngD 0 n.toNat, none) (S'.take S.length))
    | _ => .stuck
  | .rng2 a b, ρ, S => (evE a ρ S).bind fun d S1 => (evE b ρ S1).bind fun e S' => match d, e with
    | .int m, .int n => .need (decide (n < 4611686018427387904) && decide (-4611686018427387904 ≤ n) && decide (m < 4611686018427387904) && decide (-4611686018427387904 ≤ m)) (.ok (rngD m (n - m).toNat, none) (S'.take S.length))
    | _, _ => .stuck
  | .enum e, ρ, S => (evE e ρ S).bind fun d S' => (holdL S.length d S').bind fun w S => .ok (w.map enumD) S
  | .zip _ _, _, _ => .stuck
  | .rev e, ρ, S => (evE e ρ S).bind fun d S' => (holdL S.length d S').bind fun w S => .ok (w.map List.reverse) S
end
end

/-! ### statements -/
mutual
inductive Sx where
  | expr (e : Ex)
  | ret (e : Ex)
  | retN
  | set (i : Nat) (e : Ex)
  | unp (is : List Nat) (e : Ex)
  | star (is : List Nat) (at_ : Nat) (e : Ex)
  | seti (o i e : Ex)
  | aug (i : Nat) (op : Bop) (e : Ex)
  | ite (t : Ex) (a b : Sxs)
  | for (tg : Tg) (it : It) (b : Sxs)
  | while (t : Ex) (b : Sxs)
  | pass | cont | brk
  | never
inductive Sxs where
  | nil
  | cons (s : Sx) (ss : Sxs)
end

inductive FR where
  | next (ρ : Env) (S : Cells)
  | ret (d : D) (S : Cells)
  | brk (ρ : Env) (S : Cells)
  | cont (ρ : Env) (S : Cells)
  | exn (x : Exn) (ρ : Env) (S : Cells)
  | stuck
def R.toF {α : Type} (ρ : Env) (r : R α) (f : α → Cells → FR) : FR :=
  match r with
  | .ok a S => f a S
  | .exn x S => .exn x ρ S
  | .stuck => .stuck
def FR.thn (r : FR) (f : Env → Cells → FR) : FR :=
  match r with
  | .next ρ S => f ρ S
  | r => r
/-- the turns of a for -/
def forT (f : D → Env → Cells → FR) : List D → Env → Cells → FR
  | [], ρ, S => .next ρ S
  | x :: xs, ρ, S => match f x ρ S with
    | .next ρ S => forT f xs ρ S
    | .cont ρ S => forT f xs ρ S
    | .brk ρ S => .brk ρ S
    | r => r
def forE (o : Option Nat) (r : FR) : FR :=
  match r with
  | .next ρ S => match free o S with | some S => .next ρ S | none => .stuck
  | .brk ρ S => match free o S with | some S => .next ρ S | none => .stuck
  | .ret d S => match free o S with | some S => .ret d S | none => .stuck
  | .exn x ρ S => match free o S with | some S => .exn x ρ S | none => .stuck
  | _ => .stuck
def whileT (t : Env → Cells → R D) (b : Env → Cells → FR) : Nat → Env → Cells → FR
  | 0, _, _ => .stuck
  | n + 1, ρ, S => (t ρ S).toF ρ fun d S => match d with
    | .bl true => match b ρ S with
      | .next ρ S => whileT t b n ρ S
      | .cont ρ S => whileT t b n ρ S
      | .brk ρ S => .next ρ S
      | r => r
    | .bl false => .next ρ S
    | _ => .stuck
def augV (op : Bop) (m : Int) (y : D) : Option Int :=
  match op, y with
  | .add, .int n => some (m + n)
  | .sub, .int n => some (m - n)
  | _, _ => none
/-- o[i] = d -/
def setV (o i d : D) (S : Cells) : R D :=
  match i with
  | .int i => (frz d S).bind fun d S => match o with
    | .ref m => match S[m]? with
      | some ⟨.mu, .lst xs⟩ => match atN xs.length i with
        | some j => .ok .non (S.set m ⟨.mu, .lst (xs.set j d)⟩)
        | none => .stuck
      | _ => .stuck
    | _ => .stuck
  | _ => .stuck

section
variable (Φ : CallF) (W : Nat)
/-- a test -/
def evT (e : Ex) (ρ : Env) (S : Cells) : R D := norm S.length ((evE Φ e ρ S).bind fun x S => truthR x S fun t => .ok (.bl t) S)
mutual
def evS : Sx → Env → Cells → FR
  | .expr e, ρ, S => (evE Φ e ρ S).toF ρ fun _ S' => .next ρ (S'.take S.length)
  | .ret e, ρ, S => (evE Φ e ρ S).toF ρ fun d S => .ret d S
  | .retN, _, S => .ret .non S
  | .set i e, ρ, S => (evE Φ e ρ S).toF ρ fun d S => .next (ρ.set i (some d)) S
  | .unp is e, ρ, S => (evE Φ e ρ S).toF ρ fun d S => match d with
    | .tup ds => match asgs is ds ρ with
      | some ρ => .next ρ S
      | none => .stuck
    | _ => .stuck
  | .star is k e, ρ, S => (evE Φ e ρ S).toF ρ fun d S => match val S d with
    | some v => match seqOf v with
      | some ds => if is.length ≤ ds.length + 1 then
          match asgs is (ds.take k ++ [.ref S.length] ++ ds.drop (ds.length - (is.length - 1 - k))) ρ with
          | some ρ => .next ρ (S ++ [⟨.mu, .lst ((ds.drop k).take (ds.length - (is.length - 1)))⟩])
          | none => .stuck
        else .stuck
      | none => .stuck
    | none => .stuck
  | .seti o i e, ρ, S => (norm S.length ((evE Φ e ρ S).bind fun d S => (evE Φ o ρ S).bind fun o S => (evE Φ i ρ S).bind fun i S => setV o i d S)).toF ρ fun _ S => .next ρ S
  | .aug i op e, ρ, S => (look ρ i S).toF ρ fun x S => match x with
    | .int m => (evE Φ e ρ S).toF ρ fun y S => match augV op m y with
      | some z => .next (ρ.set i (some (.int z))) S
      | none => .stuck
    | _ => .stuck
  | .ite t a b, ρ, S => (evT Φ t ρ S).toF ρ fun d S => match d with
    | .bl true => evSs a ρ S
    | .bl false => evSs b ρ S
    | _ => .stuck
  | .for tg it b, ρ, S => (evI Φ it ρ S).toF ρ fun w S => forE w.2 (forT (fun x ρ S => match asg tg x ρ with | some ρ => evSs b ρ S | none => .stuck) w.1 ρ S)
  | .while t b, ρ, S => whileT (evT Φ t) (evSs b) W ρ S
  | .pass, ρ, S => .next ρ S
  | .cont, ρ, S => .cont ρ S
  | .brk, ρ, S => .brk ρ S
  | .never, _, _ => .stuck
def evSs : Sxs → Env → Cells → FR
  | .nil, ρ, S => .next ρ S
  | .cons s ss, ρ, S => (evS s ρ S).thn fun ρ S => evSs ss ρ S
end
end

/-- a def -/
structure Fn where
  np : Nat
  ns : Nat
  body : Sxs
def retR (n : Nat) : FR → R D
  | .next _ S => .ok .non (S.take n)
  | .ret d S => norm n (.ok d S)
  | .exn x _ S => .exn x (S.take n)
  | _ => .stuck
def callF (prog : Str → Option Fn) (W : Nat) : Nat → CallF
  | 0, _, _, _ => .stuck
  | k + 1, f, ds, S => match prog f with
    | some fn => if ds.length = fn.np then retR S.length (evSs (callF prog W k) W fn.body (ds.map some ++ List.replicate (fn.ns - fn.np) none) S) else .stuck
    | none => .stuck
end VS

/-! VS, part B: how the layer's heap bears the data. -/
namespace VS
open PySem PySem.Spec L2

section
variable (K : PySem.W.Frag) (mg : Str → Option Value) (H : Hp) (M : Addr → Prop)
/-- a list, a tuple that never changes -/
def StL (a : Addr) (vs : List V) : Prop := (Rd H a (.lst vs) ∧ ¬ M a) ∨
  ∃ (o : Obj) (its : Array Value) (n : Nat), K.lookup a = some o ∧ o.cls = .type "list" ∧ o.dict = none ∧ o.data = .seq its n ∧ its.size ≤ sizeLine ∧ Vals vs its.toList
def StT (a : Addr) (vs : List V) : Prop := (Rd H a (.tup vs) ∧ ¬ M a) ∨
  ∃ (o : Obj) (its : Array Value) (n : Nat), K.lookup a = some o ∧ o.cls = .type "tuple" ∧ o.data = .seq its n ∧ its.size ≤ sizeLine ∧ Vals vs its.toList
mutual
/-- data by value -/
inductive Dat : V → D → Prop
  | non : Dat .non .non
  | bl (b : Bool) : Dat (.bl b) (.bl b)
  | int (i : Int) : Dat (.int i) (.int i)
  | str (x : Str) : Dat (.str x) (.str x)
  | ty (n : String) : Dat (.ty n) (.ty n)
  | glo {x : Str} {a : Addr} : mg x = some (.ref a) → Dat (.ref a) (.glo x)
  | tup {a : Addr} {vs : List V} {ds : List D} : StT K H M a vs → Dats vs ds → Dat (.ref a) (.tup ds)
  | lst {a : Addr} {vs : List V} {ds : List D} : H a = some (.lst vs) → ¬ M a → Dats vs ds → Dat (.ref a) (.lst ds)
  | scr {a : Addr} {ns : List Int} : StL K H M a (ns.map V.int) → Dat (.ref a) (.scr ns)
inductive Dats : List V → List D → Prop
  | nil : Dats [] []
  | cons {v : V} {vs : List V} {d : D} {ds : List D} : Dat v d → Dats vs ds → Dats (v :: vs) (d :: ds)
end
end

/-- where the cells lie, and what else is not to be handed about -/
structure Ad where
  cs : List Addr
  bs : List Addr
/-- what may change, or is held meanwhile -/
def Mu (φ : Ad) (S : Cells) (a : Addr) : Prop := (∃ (n : Nat) (c : Cell), φ.cs[n]? = some a ∧ S[n]? = some c ∧ c.lk ≠ .fz) ∨ a ∈ φ.bs
/-- what may change -/
def Wr (φ : Ad) (S : Cells) (a : Addr) : Prop := ∃ (n : Nat) (c : Cell), φ.cs[n]? = some a ∧ S[n]? = some c ∧ c.lk = .mu
theorem Wr.mu {φ : Ad} {S : Cells} {a : Addr} (h : Wr φ S a) : Mu φ S a := by
  obtain ⟨n, c, h1, h2, h3⟩ := h
  exact .inl ⟨n, c, h1, h2, by rw [h3]; exact fun z => nomatch z⟩

section
variable (K : PySem.W.Frag) (mg : Str → Option Value)
/-- a value that is handed about -/
inductive Rep (H : Hp) (φ : Ad) (S : Cells) : V → D → Prop
  | dat {v : V} {d : D} : Dat K mg H (Mu φ S) v d → Rep H φ S v d
  | ref {a : Addr} {n : Nat} : φ.cs[n]? = some a → Rep H φ S (.ref a) (.ref n)
inductive Repl (H : Hp) (φ : Ad) (S : Cells) : List V → List D → Prop
  | nil : Repl H φ S [] []
  | cons {v : V} {vs : List V} {d : D} {ds : List D} : Rep K mg H φ S v d → Repl H φ S vs ds → Repl H φ S (v :: vs) (d :: ds)

/-- the cells stand in the heap -/
structure StOk (H : Hp) (φ : Ad) (S : Cells) : Prop where
  len : φ.cs.length = S.length
  nd : φ.cs.Nodup
  ex : ∀ b ∈ φ.bs, b ∉ φ.cs ∧ H b ≠ none
  at_ : ∀ (n : Nat) (a : Addr) (c : Cell), φ.cs[n]? = some a → S[n]? = some c → ∃ ds vs, c.c = .lst ds ∧ H a = some (.lst vs) ∧ Dats K mg H (Mu φ S) vs ds

structure REnv (H : Hp) (φ : Ad) (S : Cells) (σ : St) (ρ : Env) : Prop where
  len : ρ.length = σ.length
  at_ : ∀ (i : Nat) (d : D), ρ[i]? = some (some d) → ∃ v, σ[i]? = some (some v) ∧ Rep K mg H φ S v d
end

/-- what stays from one state to a later one -/
structure Keep (H : Hp) (φ : Ad) (S : Cells) (H' : Hp) (φ' : Ad) (S' : Cells) : Prop where
  pre : ∀ (n : Nat) (a : Addr), φ.cs[n]? = some a → φ'.cs[n]? = some a
  bs : φ'.bs = φ.bs
  mu : ∀ a, H a ≠ none → Mu φ' S' a → Mu φ S a
  wr : ∀ a, H a ≠ none → Wr φ' S' a → Wr φ S a
  frame : ∀ a o, H a = some o → ¬ Wr φ S a → H' a = some o
  there : ∀ a, H a ≠ none → H' a ≠ none

theorem Keep.refl (H : Hp) (φ : Ad) (S : Cells) : Keep H φ S H φ S := ⟨fun _ _ h => h, rfl, fun _ _ h => h, fun _ _ h => h, fun _ _ h _ => h, fun _ h => h⟩
theorem Keep.trans {H H1 H2 : Hp} {φ φ1 φ2 : Ad} {S S1 S2 : Cells} (a : Keep H φ S H1 φ1 S1) (b : Keep H1 φ1 S1 H2 φ2 S2) : Keep H φ S H2 φ2 S2 :=
  ⟨fun n x h => b.pre n x (a.pre n x h), b.bs.trans a.bs, fun x h m => a.mu x h (b.mu x (a.there x h) m), fun x h m => a.wr x h (b.wr x (a.there x h) m),
   fun x o h n => b.frame x o (a.frame x o h n) fun z => n (a.wr x (by rw [h]; exact fun q => nomatch q) z), fun x h => b.there x (a.there x h)⟩

section
variable {K : PySem.W.Frag} {mg : Str → Option Value} {H H' : Hp} {φ φ' : Ad} {S S' : Cells} {M M' : Addr → Prop}
theorem some_ne {α : Type} {o : Option α} {x : α} (h : o = some x) : o ≠ none := by rw [h]; exact fun z => nomatch z
theorem Rd.some {a : Addr} {u : HO} (h : Rd H a u) : ∃ o, H a = some o := by
  rcases h with h | ⟨o, h⟩
  · exact ⟨_, h⟩
  · exact ⟨_, h⟩
theorem StL.sq {a : Addr} {vs : List V} (h : StL K H M a vs) : SqL K H a vs := by
  rcases h with ⟨h, _⟩ | h
  · exact .inl h
  · exact .inr h
theorem StT.sq {a : Addr} {vs : List V} (h : StT K H M a vs) : SqT K H a vs := by
  rcases h with ⟨h, _⟩ | h
  · exact .inl h
  · exact .inr h
/-- data stay -/
structure Stay (H : Hp) (M : Addr → Prop) (H' : Hp) (M' : Addr → Prop) : Prop where
  obj : ∀ a o, H a = some o → ¬ M a → H' a = some o
  mu : ∀ a, H a ≠ none → M' a → M a
theorem Stay.rd {a : Addr} {u : HO} (k : Stay H M H' M') (h : Rd H a u) (n : ¬ M a) : Rd H' a u ∧ ¬ M' a := by
  refine ⟨?_, fun z => n (k.mu a ?_ z)⟩
  · rcases h with h | ⟨o, h⟩
    · exact .inl (k.obj a _ h n)
    · exact .inr ⟨o, k.obj a _ h n⟩
  · obtain ⟨o, e⟩ := Rd.some h
    exact some_ne e
mutual
theorem Dat.stay (k : Stay H M H' M') : ∀ {d : D} {v : V}, Dat K mg H M v d → Dat K mg H' M' v d
  | .non, _, h => by cases h; exact .non
  | .bl _, _, h => by cases h; exact .bl _
  | .int _, _, h => by cases h; exact .int _
  | .str _, _, h => by cases h; exact .str _
  | .ty _, _, h => by cases h; exact .ty _
  | .glo _, _, h => by cases h with | glo e => exact .glo e
  | .tup ds, _, h => by
    cases h with
    | tup s r =>
      refine .tup ?_ (Dats.stay k r)
      rcases s with ⟨s, n⟩ | s
      · exact .inl (k.rd s n)
      · exact .inr s
  | .lst ds, _, h => by
    cases h with
    | lst s n r => exact .lst (k.obj _ _ s n) (fun z => n (k.mu _ (some_ne s) z)) (Dats.stay k r)
  | .scr ns, _, h => by
    cases h with
    | scr s =>
      refine .scr ?_
      rcases s with ⟨s, n⟩ | s
      · exact .inl (k.rd s n)
      · exact .inr s
  | .dic _ _, _, h => by cases h
  | .set _, _, h => by cases h
  | .ref _, _, h => by cases h
theorem Dats.stay (k : Stay H M H' M') : ∀ {ds : List D} {vs : List V}, Dats K mg H M vs ds → Dats K mg H' M' vs ds
  | [], _, h => by cases h; exact .nil
  | _ :: _, _, h => by
    cases h with
    | cons a b => exact .cons (Dat.stay k a) (Dats.stay k b)
end
theorem Keep.stay (k : Keep H φ S H' φ' S') : Stay H (Mu φ S) H' (Mu φ' S') :=
  ⟨fun a o h n => k.frame a o h fun z => n z.mu, k.mu⟩
theorem Rep.keep (k : Keep H φ S H' φ' S') {v : V} {d : D} (h : Rep K mg H φ S v d) : Rep K mg H' φ' S' v d := by
  cases h with
  | dat h => exact .dat (h.stay k.stay)
  | ref h => exact .ref (k.pre _ _ h)
theorem Repl.keep (k : Keep H φ S H' φ' S') {vs : List V} {ds : List D} (h : Repl K mg H φ S vs ds) : Repl K mg H' φ' S' vs ds := by
  induction h with
  | nil => exact .nil
  | cons a _ ih => exact .cons (a.keep k) ih
theorem REnv.keep (k : Keep H φ S H' φ' S') {σ : St} {ρ : Env} (h : REnv K mg H φ S σ ρ) : REnv K mg H' φ' S' σ ρ :=
  ⟨h.len, fun i d e => let ⟨v, e1, r⟩ := h.at_ i d e; ⟨v, e1, r.keep k⟩⟩
theorem Dats.length {vs : List V} {ds : List D} (h : Dats K mg H M vs ds) : vs.length = ds.length := by
  induction ds generalizing vs with
  | nil => cases h; rfl
  | cons d ds ih => cases h with | cons _ b => simp [ih b]
theorem Repl.length {vs : List V} {ds : List D} (h : Repl K mg H φ S vs ds) : vs.length = ds.length := by
  induction h with
  | nil => rfl
  | cons _ _ ih => simp [ih]
theorem Dats.get {vs : List V} {ds : List D} (h : Dats K mg H M vs ds) : ∀ {i : Nat} {d : D}, ds[i]? = some d → ∃ v, vs[i]? = some v ∧ Dat K mg H M v d := by
  induction ds generalizing vs with
  | nil => intro i d e; simp at e
  | cons x xs ih =>
    cases h with
    | cons a b =>
      intro i d e
      cases i with
      | zero => simp at e; subst e; exact ⟨_, rfl, a⟩
      | succ i => simpa using ih b (i := i) (d := d) (by simpa using e)
theorem Dats.append {vs ws : List V} {ds es : List D} (h : Dats K mg H M vs ds) (h' : Dats K mg H M ws es) : Dats K mg H M (vs ++ ws) (ds ++ es) := by
  induction ds generalizing vs with
  | nil => cases h; exact h'
  | cons x xs ih => cases h with | cons a b => exact .cons a (ih b)
theorem Dats.take {vs : List V} {ds : List D} (h : Dats K mg H M vs ds) : ∀ n : Nat, Dats K mg H M (vs.take n) (ds.take n) := by
  induction ds generalizing vs with
  | nil => intro n; cases h; simp; exact .nil
  | cons x xs ih =>
    intro n
    cases h with
    | cons a b =>
      cases n with
      | zero => exact .nil
      | succ n => exact .cons a (ih b n)
theorem Dats.drop {vs : List V} {ds : List D} (h : Dats K mg H M vs ds) : ∀ n : Nat, Dats K mg H M (vs.drop n) (ds.drop n) := by
  induction ds generalizing vs with
  | nil => intro n; cases h; simp; exact .nil
  | cons x xs ih =>
    intro n
    cases h with
    | cons a b =>
      cases n with
      | zero => exact .cons a b
      | succ n => exact ih b n
theorem Dats.reverse {vs : List V} {ds : List D} (h : Dats K mg H M vs ds) : Dats K mg H M vs.reverse ds.reverse := by
  induction ds generalizing vs with
  | nil => cases h; exact .nil
  | cons x xs ih =>
    cases h with
    | cons a b =>
      rw [List.reverse_cons, List.reverse_cons]
      exact (ih b).append (.cons a .nil)
theorem Dats.set {vs : List V} {ds : List D} {v : V} {d : D} (h : Dats K mg H M vs ds) (hv : Dat K mg H M v d) : ∀ j : Nat, Dats K mg H M (vs.set j v) (ds.set j d) := by
  induction ds generalizing vs with
  | nil => intro j; cases h; exact .nil
  | cons x xs ih =>
    intro j
    cases h with
    | cons a b =>
      cases j with
      | zero => exact .cons hv b
      | succ j => exact .cons a (ih b j)
theorem Dats.tail {vs : List V} {ds : List D} (h : Dats K mg H M vs ds) : Dats K mg H M vs.tail ds.tail := by
  cases h with
  | nil => exact .nil
  | cons _ b => exact b
theorem Dats.flatten {vss : List V} {ds : List D} (h : Dats K mg H M vss ds) (n : Nat) : Dats K mg H M ((List.replicate n vss).flatten) ((List.replicate n ds).flatten) := by
  induction n with
  | zero => exact .nil
  | succ n ih => rw [List.replicate_succ, List.replicate_succ, List.flatten_cons, List.flatten_cons]; exact h.append ih
theorem Dats.at_len {vs : List V} {ds : List D} (h : Dats K mg H M vs ds) {i : Nat} {v : V} (e : vs[i]? = some v) : ∃ d, ds[i]? = some d ∧ Dat K mg H M v d := by
  have hl := h.length
  obtain ⟨hi, _⟩ := List.getElem?_eq_some_iff.mp e
  have e2 : ds[i]? = some ds[i] := by simp [show i < ds.length by omega]
  obtain ⟨w, e3, r⟩ := h.get e2
  rw [e] at e3; cases e3
  exact ⟨_, e2, r⟩
end
end VS

/-! VS, part C: readings made from the interpreter; cells made, frozen, dropped. -/
namespace VS
open PySem PySem.Spec L2

section
variable (K : PySem.W.Frag) (mg : Str → Option Value)
/-- what is wanted behind an evaluation's answer -/
def Ans (r : R D) (H : Hp) (φ : Ad) (S : Cells) (Q : VK) : Prop :=
  match r with
  | .ok d S' => ∀ v H' φ', StOk K mg H' φ' S' → Rep K mg H' φ' S' v d → Keep H φ S H' φ' S' → Q v H'
  | _ => False
def Anss (r : R (List D)) (H : Hp) (φ : Ad) (S : Cells) (Q : List V → Hp → Prop) : Prop :=
  match r with
  | .ok ds S' => ∀ vs H' φ', StOk K mg H' φ' S' → Repl K mg H' φ' S' vs ds → Keep H φ S H' φ' S' → Q vs H'
  | _ => False
/-- a reading of an expression; of an argument list -/
def TEv (f : Env → Cells → R D) : TE := fun σ H Q => ∃ φ ρ S, StOk K mg H φ S ∧ REnv K mg H φ S σ ρ ∧ Ans K mg (f ρ S) H φ S Q
def TAv (f : Env → Cells → R (List D)) : TA := fun σ H Q => ∃ φ ρ S, StOk K mg H φ S ∧ REnv K mg H φ S σ ρ ∧ Anss K mg (f ρ S) H φ S Q
end

/-- fewer cells, one more -/
def Ad.take (φ : Ad) (n : Nat) : Ad := ⟨φ.cs.take n, φ.bs⟩
def Ad.push (φ : Ad) (a : Addr) : Ad := ⟨φ.cs ++ [a], φ.bs⟩
section
variable {K : PySem.W.Frag} {mg : Str → Option Value} {H H' : Hp} {φ φ' : Ad} {S S' : Cells}
theorem Ans.mono {r : R D} {Q Q' : VK} (h : Ans K mg r H φ S Q) (hq : ∀ v H, Q v H → Q' v H) : Ans K mg r H φ S Q' := by
  cases r with
  | ok d S' => exact fun v H' φ' a b c => hq _ _ (h v H' φ' a b c)
  | exn x S' => exact h
  | stuck => exact h
/-- from an earlier state -/
theorem Ans.later {r : R D} {Q : VK} (k : Keep H φ S H' φ' S') (h : Ans K mg r H φ S Q) : Ans K mg r H' φ' S' Q := by
  cases r with
  | ok d S2 => exact fun v H2 φ2 a b c => h v H2 φ2 a b (k.trans c)
  | exn x S' => exact h
  | stuck => exact h
theorem Anss.later {r : R (List D)} {Q : List V → Hp → Prop} (k : Keep H φ S H' φ' S') (h : Anss K mg r H φ S Q) : Anss K mg r H' φ' S' Q := by
  cases r with
  | ok d S2 => exact fun v H2 φ2 a b c => h v H2 φ2 a b (k.trans c)
  | exn x S' => exact h
  | stuck => exact h
theorem Ans.ok_iff {d : D} {S2 : Cells} {Q : VK} : Ans K mg (.ok d S2) H φ S Q ↔ ∀ v H' φ', StOk K mg H' φ' S2 → Rep K mg H' φ' S2 v d → Keep H φ S H' φ' S2 → Q v H' := Iff.rfl
/-- the answer at hand, the state as it is -/
theorem Ans.here {d : D} {Q : VK} {v : V} (h : Ans K mg (.ok d S) H φ S Q) (st : StOk K mg H φ S) (r : Rep K mg H φ S v d) : Q v H := h v H φ st r (Keep.refl _ _ _)

/-- one step, then more -/
theorem Ans.step {r : R D} {g : D → Cells → R D} {Q : VK} (h : Ans K mg (r.bind g) H φ S Q) :
    Ans K mg r H φ S (fun v H1 => ∃ φ1 S1 d, StOk K mg H1 φ1 S1 ∧ Rep K mg H1 φ1 S1 v d ∧ Keep H φ S H1 φ1 S1 ∧ Ans K mg (g d S1) H1 φ1 S1 Q) := by
  cases r with
  | ok d S1 => exact fun v H1 φ1 a b c => ⟨φ1, S1, d, a, b, c, Ans.later c h⟩
  | exn x S' => exact h
  | stuck => exact h
theorem Ans.steps {r : R D} {g : D → Cells → R (List D)} {Q : List V → Hp → Prop} (h : Anss K mg (r.bind g) H φ S Q) :
    Ans K mg r H φ S (fun v H1 => ∃ φ1 S1 d, StOk K mg H1 φ1 S1 ∧ Rep K mg H1 φ1 S1 v d ∧ Keep H φ S H1 φ1 S1 ∧ Anss K mg (g d S1) H1 φ1 S1 Q) := by
  cases r with
  | ok d S1 => exact fun v H1 φ1 a b c => ⟨φ1, S1, d, a, b, c, Anss.later c h⟩
  | exn x S' => exact h
  | stuck => exact h
theorem Anss.step {r : R (List D)} {g : List D → Cells → R D} {Q : VK} (h : Ans K mg (r.bind g) H φ S Q) :
    Anss K mg r H φ S (fun vs H1 => ∃ φ1 S1 ds, StOk K mg H1 φ1 S1 ∧ Repl K mg H1 φ1 S1 vs ds ∧ Keep H φ S H1 φ1 S1 ∧ Ans K mg (g ds S1) H1 φ1 S1 Q) := by
  cases r with
  | ok d S1 => exact fun v H1 φ1 a b c => ⟨φ1, S1, d, a, b, c, Ans.later c h⟩
  | exn x S' => exact h
  | stuck => exact h

/-! ### cells dropped -/
theorem getElem?_take_le {α : Type} {l : List α} {n i : Nat} {x : α} (h : (l.take n)[i]? = some x) : l[i]? = some x ∧ i < n := by
  rw [List.getElem?_take] at h
  split at h
  · exact ⟨h, by assumption⟩
  · cases h
theorem Mu.take {n : Nat} {a : Addr} (h : Mu (φ.take n) (S.take n) a) : Mu φ S a := by
  rcases h with ⟨i, c, h1, h2, h3⟩ | h
  · exact .inl ⟨i, c, (getElem?_take_le h1).1, (getElem?_take_le h2).1, h3⟩
  · exact .inr h
theorem Wr.take {n : Nat} {a : Addr} (h : Wr (φ.take n) (S.take n) a) : Wr φ S a := by
  obtain ⟨i, c, h1, h2, h3⟩ := h
  exact ⟨i, c, (getElem?_take_le h1).1, (getElem?_take_le h2).1, h3⟩
theorem Stay.mu_le {M M' : Addr → Prop} (h : ∀ a, M' a → M a) : Stay H M H M' := ⟨fun _ _ e _ => e, fun a _ m => h a m⟩
theorem StOk.take (st : StOk K mg H φ S) (n : Nat) : StOk K mg H (φ.take n) (S.take n) := by
  refine ⟨by simp [Ad.take, st.len], st.nd.sublist (List.take_sublist _ _), fun b hb => ⟨fun z => (st.ex b hb).1 (List.mem_of_mem_take z), (st.ex b hb).2⟩, fun i a c h1 h2 => ?_⟩
  obtain ⟨ds, vs, e, h, r⟩ := st.at_ i a c (getElem?_take_le h1).1 (getElem?_take_le h2).1
  exact ⟨ds, vs, e, h, r.stay (Stay.mu_le fun _ m => m.take)⟩
theorem StOk.there (st : StOk K mg H φ S) {n : Nat} {a : Addr} (h : φ.cs[n]? = some a) : ∃ vs, H a = some (.lst vs) := by
  have hn : n < S.length := by rw [← st.len]; exact (List.getElem?_eq_some_iff.mp h).1
  obtain ⟨ds, vs, _, e, _⟩ := st.at_ n a S[n] h (by simp [hn])
  exact ⟨vs, e⟩
/-- behind: so many cells as ahead -/
theorem Keep.take {n : Nat} (k : Keep H φ S H' φ' S') (hn : n = φ.cs.length) : Keep H φ S H' (φ'.take n) (S'.take n) := by
  refine ⟨fun i a h => ?_, k.bs, fun a h m => k.mu a h m.take, fun a h m => k.wr a h m.take, k.frame, k.there⟩
  have hi : i < n := by rw [hn]; exact (List.getElem?_eq_some_iff.mp h).1
  show (φ'.cs.take n)[i]? = some a
  rw [List.getElem?_take, if_pos hi]
  exact k.pre i a h
theorem mem_of_get {α : Type} {l : List α} {i : Nat} {x : α} (h : l[i]? = some x) : x ∈ l := List.mem_of_getElem? h
theorem nd_get {l : List Addr} (hN : l.Nodup) {i j : Nat} {x : Addr} (a : l[i]? = some x) (b : l[j]? = some x) : i = j := by
  obtain ⟨h1, e1⟩ := List.getElem?_eq_some_iff.mp a
  obtain ⟨h2, e2⟩ := List.getElem?_eq_some_iff.mp b
  exact (List.getElem_inj hN).mp (e1.trans e2.symm)
/-- a cell taken down to a lower place -/
theorem down {n m : Nat} {a : Addr} {c : Cell} (st : StOk K mg H φ S) (hn : n ≤ m) (ha : φ.cs[m]? = some a) (hc : S[m]? = some c) :
    StOk K mg H ((φ.take n).push a) (S.take n ++ [c]) ∧ (∀ b, Mu ((φ.take n).push a) (S.take n ++ [c]) b → Mu φ S b) ∧ (∀ b, Wr ((φ.take n).push a) (S.take n ++ [c]) b → Wr φ S b) := by
  have hm : m < φ.cs.length := (List.getElem?_eq_some_iff.mp ha).1
  have l1 : (φ.cs.take n).length = n := by rw [List.length_take]; omega
  have l2 : (S.take n).length = n := by rw [List.length_take, ← st.len]; omega
  have pick : ∀ {i : Nat} {b : Addr} {c' : Cell}, (φ.cs.take n ++ [a])[i]? = some b → (S.take n ++ [c])[i]? = some c' → ∃ j : Nat, φ.cs[j]? = some b ∧ S[j]? = some c' := by
    intro i b c' h1 h2
    by_cases hi : i < n
    · rw [List.getElem?_append_left (by omega)] at h1 h2
      exact ⟨i, (getElem?_take_le h1).1, (getElem?_take_le h2).1⟩
    · rw [List.getElem?_append_right (by omega), l1] at h1
      rw [List.getElem?_append_right (by omega), l2] at h2
      have hz : i - n = 0 := by
        by_cases z : i - n = 0
        · exact z
        · rw [List.getElem?_eq_none (by simp; omega)] at h1; cases h1
      rw [hz] at h1 h2
      simp at h1 h2
      subst h1 h2
      exact ⟨m, ha, hc⟩
  have mu : ∀ b, Mu ((φ.take n).push a) (S.take n ++ [c]) b → Mu φ S b := fun b z => by
    rcases z with ⟨i, c', h1, h2, h3⟩ | z
    · obtain ⟨j, q1, q2⟩ := pick h1 h2
      exact .inl ⟨j, c', q1, q2, h3⟩
    · exact .inr z
  have amem : a ∈ φ.cs := mem_of_get ha
  refine ⟨⟨by simp [Ad.push, Ad.take, st.len], ?_, fun b hb => ⟨fun z => ?_, (st.ex b hb).2⟩, fun i b c' h1 h2 => ?_⟩, mu, fun b ⟨i, c', h1, h2, h3⟩ => let ⟨j, q1, q2⟩ := pick h1 h2; ⟨j, c', q1, q2, h3⟩⟩
  · show (φ.cs.take n ++ [a]).Nodup
    rw [List.nodup_append]
    refine ⟨st.nd.sublist (List.take_sublist _ _), (by simp), fun x hx y hy e => ?_⟩
    rw [List.mem_singleton] at hy
    subst hy
    subst e
    obtain ⟨i, hi⟩ := List.getElem?_of_mem hx
    obtain ⟨q, hlt⟩ := getElem?_take_le hi
    have := nd_get st.nd q ha
    omega
  · rcases List.mem_append.mp (show b ∈ φ.cs.take n ++ [a] from z) with z | z
    · exact (st.ex b hb).1 (List.mem_of_mem_take z)
    · rw [List.mem_singleton] at z
      exact (st.ex b hb).1 (by rw [z]; exact amem)
  · obtain ⟨j, q1, q2⟩ := pick h1 h2
    obtain ⟨ds, vs, e, h, r⟩ := st.at_ j b c' q1 q2
    exact ⟨ds, vs, e, h, r.stay (Stay.mu_le mu)⟩
theorem Dat.le {M M' : Addr → Prop} {v : V} {d : D} (h : Dat K mg H M v d) (hm : ∀ a, M' a → M a) : Dat K mg H M' v d := h.stay (Stay.mu_le hm)
theorem take_full {α : Type} {l : List α} {n : Nat} (h : l.length = n) : l.take n = l := by rw [← h]; exact List.take_length

/-- norm drops nothing that is asked for -/
theorem Ans.norm {r : R D} {Q : VK} (st : StOk K mg H φ S) (h : Ans K mg (norm S.length r) H φ S Q) : Ans K mg r H φ S Q := by
  cases r with
  | exn x S' => exact h
  | stuck => exact h
  | ok d S1 =>
    intro v H1 φ1 st1 rv k
    have base : ∀ {w : V} {e : D}, (Dat K mg H1 (Mu φ1 S1) w e) → (∀ v H' φ', StOk K mg H' φ' (S1.take S.length) → Rep K mg H' φ' (S1.take S.length) v e → Keep H φ S H' φ' (S1.take S.length) → Q v H') → Q w H1 :=
      fun {w e} rw_ hh => hh w H1 (φ1.take S.length) (st1.take _) (.dat (rw_.le fun a m => m.take)) (k.take (by rw [st.len]))
    cases d with
    | ref m =>
      by_cases hm : m < S.length
      · have h' : Ans K mg (.ok (.ref m) (S1.take S.length)) H φ S Q := by
          have e : VS.norm S.length (.ok (.ref m) S1) = .ok (.ref m) (S1.take S.length) := by simp [VS.norm, hm]
          rw [e] at h; exact h
        cases rv with
        | dat z => cases z
        | ref z =>
          refine h' _ H1 (φ1.take S.length) (st1.take _) (.ref ?_) (k.take (by rw [st.len]))
          show (φ1.cs.take S.length)[m]? = _
          rw [List.getElem?_take, if_pos hm]; exact z
      · cases rv with
        | dat z => cases z
        | @ref a _ z =>
          have hlt : m < S1.length := by rw [← st1.len]; exact (List.getElem?_eq_some_iff.mp z).1
          have hc : S1[m]? = some S1[m] := by simp [hlt]
          have h' : Ans K mg (.ok (.ref S.length) (S1.take S.length ++ [S1[m]])) H φ S Q := by
            have e : VS.norm S.length (.ok (.ref m) S1) = .ok (.ref S.length) (S1.take S.length ++ [S1[m]]) := by simp [VS.norm, hm, hc]
            rw [e] at h; exact h
          have hle : S.length ≤ m := by omega
          obtain ⟨s2, mu2, wr2⟩ := down st1 hle z hc
          have l1 : (φ1.cs.take S.length).length = S.length := by rw [List.length_take, st1.len]; omega
          refine h' _ H1 _ s2 (.ref ?_) ⟨fun i b e => ?_, k.bs, fun b e m' => k.mu b e (mu2 b m'), fun b e m' => k.wr b e (wr2 b m'), k.frame, k.there⟩
          · show (φ1.cs.take S.length ++ [a])[S.length]? = _
            rw [List.getElem?_append_right (by omega), l1]; simp
          · have hi : i < S.length := by rw [← st.len]; exact (List.getElem?_eq_some_iff.mp e).1
            show (φ1.cs.take S.length ++ [a])[i]? = _
            rw [List.getElem?_append_left (by omega), List.getElem?_take, if_pos hi]
            exact k.pre i b e
    | non => cases rv with | dat z => exact base z h
    | bl _ => cases rv with | dat z => exact base z h
    | int _ => cases rv with | dat z => exact base z h
    | str _ => cases rv with | dat z => exact base z h
    | tup _ => cases rv with | dat z => exact base z h
    | lst _ => cases rv with | dat z => exact base z h
    | dic _ _ => cases rv with | dat z => exact base z h
    | set _ => cases rv with | dat z => exact base z h
    | glo _ => cases rv with | dat z => exact base z h
    | ty _ => cases rv with | dat z => exact base z h
    | scr _ => cases rv with | dat z => exact base z h

theorem TEv.norm {f : Env → Cells → R D} {σ : St} {Q : VK} (h : TEv K mg (fun ρ S => norm S.length (f ρ S)) σ H Q) : TEv K mg f σ H Q := by
  obtain ⟨φ, ρ, S, st, re, a⟩ := h
  exact ⟨φ, ρ, S, st, re, Ans.norm st a⟩

/-! ### new objects -/
theorem fresh_not (st : StOk K mg H φ S) {p : Addr} (hp : H p = none) : p ∉ φ.cs := fun hm => by
  obtain ⟨i, hi⟩ := List.getElem?_of_mem hm
  obtain ⟨vs, e⟩ := st.there hi
  rw [hp] at e; cases e
theorem fresh_mu (st : StOk K mg H φ S) {p : Addr} (hp : H p = none) : ¬ Mu φ S p := fun z => by
  rcases z with ⟨i, c, h1, _, _⟩ | z
  · exact fresh_not st hp (mem_of_get h1)
  · exact (st.ex p z).2 hp
theorem Stay.new {M M' : Addr → Prop} {p : Addr} {o : HO} (hp : H p = none) (hm : ∀ a, M' a → a = p ∨ M a) : Stay H M (upd H p o) M' :=
  ⟨fun a u e _ => by rw [upd_ne (ne_of_none e hp)]; exact e, fun a e m => by
    rcases hm a m with z | z
    · subst z; exact (e hp).elim
    · exact z⟩
/-- a tuple laid -/
theorem lay_tup {p : Addr} {vs : List V} {ds : List D} (st : StOk K mg H φ S) (hp : H p = none) (r : Dats K mg H (Mu φ S) vs ds) :
    StOk K mg (upd H p (.tup vs)) φ S ∧ Dat K mg (upd H p (.tup vs)) (Mu φ S) (.ref p) (.tup ds) ∧ Keep H φ S (upd H p (.tup vs)) φ S := by
  have sy : Stay H (Mu φ S) (upd H p (.tup vs)) (Mu φ S) := Stay.new hp fun a m => .inr m
  have th : ∀ a, H a ≠ none → upd H p (.tup vs) a ≠ none := fun a h => by
    by_cases z : a = p
    · subst z; exact (h hp).elim
    · rw [upd_ne z]; exact h
  refine ⟨⟨st.len, st.nd, fun b hb => ⟨(st.ex b hb).1, th b (st.ex b hb).2⟩, fun n a c h1 h2 => ?_⟩, .tup (.inl ⟨.inl upd_same, fresh_mu st hp⟩) (r.stay sy), ⟨fun _ _ h => h, rfl, fun _ _ m => m, fun _ _ m => m, fun a o h _ => by rw [upd_ne (ne_of_none h hp)]; exact h, th⟩⟩
  obtain ⟨es, ws, e, h, q⟩ := st.at_ n a c h1 h2
  exact ⟨es, ws, e, by rw [upd_ne (ne_of_none h hp)]; exact h, q.stay sy⟩
/-- a list laid: a new cell -/
theorem lay_lst {p : Addr} {vs : List V} {ds : List D} (st : StOk K mg H φ S) (hp : H p = none) (r : Dats K mg H (Mu φ S) vs ds) :
    StOk K mg (upd H p (.lst vs)) (φ.push p) (S ++ [⟨.mu, .lst ds⟩]) ∧ Rep K mg (upd H p (.lst vs)) (φ.push p) (S ++ [⟨.mu, .lst ds⟩]) (.ref p) (.ref S.length) ∧
      Keep H φ S (upd H p (.lst vs)) (φ.push p) (S ++ [⟨.mu, .lst ds⟩]) := by
  have split : ∀ {i : Nat} {a : Addr} {c : Cell}, (φ.cs ++ [p])[i]? = some a → (S ++ [⟨.mu, .lst ds⟩])[i]? = some c → (φ.cs[i]? = some a ∧ S[i]? = some c) ∨ (a = p ∧ c = ⟨.mu, .lst ds⟩) := by
    intro i a c h1 h2
    by_cases hi : i < φ.cs.length
    · rw [List.getElem?_append_left hi] at h1
      rw [List.getElem?_append_left (by rw [← st.len]; exact hi)] at h2
      exact .inl ⟨h1, h2⟩
    · rw [List.getElem?_append_right (by omega)] at h1
      rw [List.getElem?_append_right (by rw [← st.len]; omega), ← st.len] at h2
      have hz : i - φ.cs.length = 0 := by
        by_cases z : i - φ.cs.length = 0
        · exact z
        · rw [List.getElem?_eq_none (by simp; omega)] at h1; cases h1
      rw [hz] at h1 h2
      simp at h1 h2
      exact .inr ⟨h1.symm, h2.symm⟩
  have mu : ∀ a, Mu (φ.push p) (S ++ [⟨.mu, .lst ds⟩]) a → a = p ∨ Mu φ S a := fun a z => by
    rcases z with ⟨i, c, h1, h2, h3⟩ | z
    · rcases split h1 h2 with ⟨q1, q2⟩ | ⟨q1, _⟩
      · exact .inr (.inl ⟨i, c, q1, q2, h3⟩)
      · exact .inl q1
    · exact .inr (.inr z)
  have wr : ∀ a, Wr (φ.push p) (S ++ [⟨.mu, .lst ds⟩]) a → a = p ∨ Wr φ S a := fun a ⟨i, c, h1, h2, h3⟩ => by
    rcases split h1 h2 with ⟨q1, q2⟩ | ⟨q1, _⟩
    · exact .inr ⟨i, c, q1, q2, h3⟩
    · exact .inl q1
  have sy : Stay H (Mu φ S) (upd H p (.lst vs)) (Mu (φ.push p) (S ++ [⟨.mu, .lst ds⟩])) := Stay.new hp mu
  have hne : ∀ a, H a ≠ none → a = p → False := fun a h z => by subst z; exact h hp
  have th : ∀ a, H a ≠ none → upd H p (.lst vs) a ≠ none := fun a h => by
    by_cases z : a = p
    · exact (hne a h z).elim
    · rw [upd_ne z]; exact h
  refine ⟨⟨by simp [Ad.push, st.len], ?_, fun b hb => ⟨fun z => ?_, th b (st.ex b hb).2⟩, fun n a c h1 h2 => ?_⟩, .ref ?_, ⟨fun n a h => ?_, rfl, fun a h m => (mu a m).elim (fun z => (hne a h z).elim) id, fun a h m => (wr a m).elim (fun z => (hne a h z).elim) id,
    fun a o h _ => by rw [upd_ne (ne_of_none h hp)]; exact h, th⟩⟩
  · show (φ.cs ++ [p]).Nodup
    rw [List.nodup_append]
    refine ⟨st.nd, (by simp), fun x hx y hy e => ?_⟩
    rw [List.mem_singleton] at hy
    subst hy; subst e
    exact fresh_not st hp hx
  · rcases List.mem_append.mp (show b ∈ φ.cs ++ [p] from z) with z | z
    · exact (st.ex b hb).1 z
    · rw [List.mem_singleton] at z
      exact hne b (st.ex b hb).2 z
  · rcases split h1 h2 with ⟨q1, q2⟩ | ⟨q1, q2⟩
    · obtain ⟨es, ws, e, h, q⟩ := st.at_ n a c q1 q2
      exact ⟨es, ws, e, by rw [upd_ne (ne_of_none h hp)]; exact h, q.stay sy⟩
    · subst q1; subst q2
      exact ⟨ds, vs, rfl, upd_same, r.stay sy⟩
  · show (φ.cs ++ [p])[S.length]? = _
    rw [← st.len, List.getElem?_append_right (Nat.le_refl _)]; simp
  · show (φ.cs ++ [p])[n]? = _
    rw [List.getElem?_append_left (List.getElem?_eq_some_iff.mp h).1]; exact h

/-- a cell's lock changed, its content as it was -/
theorem relock {m : Nat} {a : Addr} {c : Cell} {l : Lk} (st : StOk K mg H φ S) (ha : φ.cs[m]? = some a) (hc : S[m]? = some c)
    (hl : c.lk = .fz → l = .fz) : StOk K mg H φ (S.set m ⟨l, c.c⟩) ∧ (∀ b, Mu φ (S.set m ⟨l, c.c⟩) b → Mu φ S b) := by
  have hm : m < S.length := (List.getElem?_eq_some_iff.mp hc).1
  have pick : ∀ {i : Nat} {c' : Cell}, (S.set m ⟨l, c.c⟩)[i]? = some c' → ∃ c2, S[i]? = some c2 ∧ c'.c = c2.c ∧ (c2.lk = .fz → c'.lk = .fz) := by
    intro i c' h
    by_cases hi : m = i
    · subst hi
      rw [List.getElem?_set_self hm] at h
      cases h
      exact ⟨c, hc, rfl, hl⟩
    · rw [List.getElem?_set_ne hi] at h
      exact ⟨c', h, rfl, id⟩
  have mu : ∀ b, Mu φ (S.set m ⟨l, c.c⟩) b → Mu φ S b := fun b z => by
    rcases z with ⟨i, c', h1, h2, h3⟩ | z
    · obtain ⟨c2, q1, _, q3⟩ := pick h2
      exact .inl ⟨i, c2, h1, q1, fun z => h3 (q3 z)⟩
    · exact .inr z
  refine ⟨⟨by simp [st.len], st.nd, st.ex, fun n b c' h1 h2 => ?_⟩, mu⟩
  obtain ⟨c2, q1, q2, _⟩ := pick h2
  obtain ⟨ds, vs, e, h, r⟩ := st.at_ n b c2 h1 q1
  exact ⟨ds, vs, q2.trans e, h, r.stay (Stay.mu_le mu)⟩
theorem Keep.relock {m : Nat} {c : Cell} {l : Lk} (hc : S[m]? = some c) (mu : ∀ b, Mu φ (S.set m ⟨l, c.c⟩) b → Mu φ S b) (hw : l = .mu → c.lk = .mu) : Keep H φ S H φ (S.set m ⟨l, c.c⟩) := by
  refine ⟨fun _ _ h => h, rfl, fun a _ h => mu a h, fun a _ ⟨i, c', h1, h2, h3⟩ => ?_, fun _ _ h _ => h, fun _ h => h⟩
  by_cases hi : m = i
  · subst hi
    rw [List.getElem?_set_self (List.getElem?_eq_some_iff.mp hc).1] at h2
    cases h2
    exact ⟨m, c, h1, hc, hw h3⟩
  · rw [List.getElem?_set_ne hi] at h2
    exact ⟨i, c', h1, h2, h3⟩

/-- a value made part of another -/
theorem frz_ok {v : V} {d e : D} (st : StOk K mg H φ S) (r : Rep K mg H φ S v d) (h : frz d S = .ok e S') :
    StOk K mg H φ S' ∧ Dat K mg H (Mu φ S') v e ∧ Keep H φ S H φ S' := by
  cases r with
  | @dat v d z =>
    have e1 : frz d S = .ok d S := by cases z <;> rfl
    rw [e1] at h
    cases h
    exact ⟨st, z, Keep.refl _ _ _⟩
  | @ref a n z =>
    have hn : n < S.length := by rw [← st.len]; exact (List.getElem?_eq_some_iff.mp z).1
    have hc : S[n]? = some S[n] := by simp [hn]
    obtain ⟨ds, vs, e1, hh, q⟩ := st.at_ n a _ z hc
    generalize hcc : S[n] = c at *
    obtain ⟨l, cc⟩ := c
    simp only at e1
    subst e1
    have hl : l ≠ .lk ∧ e = .lst ds ∧ S' = S.set n ⟨.fz, .lst ds⟩ := by
      cases l with
      | lk => simp [frz, hc] at h
      | mu => simp [frz, hc] at h; exact ⟨(fun z => nomatch z), h.1.symm, h.2.symm⟩
      | fz => simp [frz, hc] at h; exact ⟨(fun z => nomatch z), h.1.symm, h.2.symm⟩
    obtain ⟨_, rfl, rfl⟩ := hl
    obtain ⟨s2, mu2⟩ := relock (l := .fz) st z hc (fun _ => rfl)
    have k2 := Keep.relock (H := H) (φ := φ) (l := .fz) hc mu2 (fun z => nomatch z)
    refine ⟨s2, .lst hh ?_ (q.stay (Stay.mu_le mu2)), k2⟩
    rintro (⟨i, c', h1, h2, h3⟩ | hb)
    · have : i = n := nd_get st.nd h1 z
      subst this
      rw [List.getElem?_set_self hn] at h2
      cases h2
      exact h3 rfl
    · exact (st.ex a hb).1 (mem_of_get z)
theorem frzs_ok : ∀ {ds es : List D} {vs : List V} {S S' : Cells}, StOk K mg H φ S → Repl K mg H φ S vs ds → frzs ds S = .ok es S' →
    StOk K mg H φ S' ∧ Dats K mg H (Mu φ S') vs es ∧ Keep H φ S H φ S' := by
  intro ds
  induction ds with
  | nil =>
    intro es vs S S' st r h
    cases r
    cases h
    exact ⟨st, .nil, Keep.refl _ _ _⟩
  | cons d ds ih =>
    intro es vs S S' st r h
    cases r with
    | cons r rr =>
      simp only [frzs] at h
      cases h1 : frz d S with
      | exn x S1 => rw [h1] at h; cases h
      | stuck => rw [h1] at h; cases h
      | ok e S1 =>
        rw [h1] at h
        simp only [R.bind] at h
        obtain ⟨st1, q1, k1⟩ := frz_ok st r h1
        cases h2 : frzs ds S1 with
        | exn x S2 => rw [h2] at h; cases h
        | stuck => rw [h2] at h; cases h
        | ok es' S2 =>
          rw [h2] at h
          simp only [R.bind] at h
          cases h
          obtain ⟨st2, q2, k2⟩ := ih st1 (rr.keep k1) h2
          exact ⟨st2, .cons (q1.stay k2.stay) q2, k1.trans k2⟩

/-! ### a value looked at -/
/-- what a value is, by its cell -/
inductive Vw (K : PySem.W.Frag) (mg : Str → Option Value) (H : Hp) (φ : Ad) (S : Cells) : V → D → Prop
  | dat {v : V} {d : D} : Dat K mg H (Mu φ S) v d → Vw K mg H φ S v d
  | cell {a : Addr} {vs : List V} {ds : List D} : H a = some (.lst vs) → Dats K mg H (Mu φ S) vs ds → Vw K mg H φ S (.ref a) (.lst ds)
theorem val_vw {v : V} {d e : D} (st : StOk K mg H φ S) (r : Rep K mg H φ S v d) (h : val S d = some e) : Vw K mg H φ S v e := by
  cases r with
  | @dat v d z =>
    have e1 : val S d = some d := by cases z <;> rfl
    rw [e1] at h
    cases h
    exact .dat z
  | @ref a n z =>
    have hn : n < S.length := by rw [← st.len]; exact (List.getElem?_eq_some_iff.mp z).1
    have hc : S[n]? = some S[n] := by simp [hn]
    obtain ⟨ds, vs, e1, hh, q⟩ := st.at_ n a _ z hc
    simp only [val, hc, Option.map_some, Option.some.injEq] at h
    rw [e1] at h
    subst h
    exact .cell hh q
theorem Vw.lst {v : V} {ds : List D} (h : Vw K mg H φ S v (.lst ds)) : ∃ a vs, v = .ref a ∧ H a = some (.lst vs) ∧ Dats K mg H (Mu φ S) vs ds := by
  cases h with
  | dat h => cases h with | lst s _ r => exact ⟨_, _, rfl, s, r⟩
  | cell e r => exact ⟨_, _, rfl, e, r⟩
theorem Vw.scr {v : V} {ns : List Int} (h : Vw K mg H φ S v (.scr ns)) : ∃ a, v = .ref a ∧ SqL K H a (ns.map V.int) := by
  cases h with
  | dat h => cases h with | scr s => exact ⟨_, rfl, s.sq⟩
theorem Vw.tup {v : V} {ds : List D} (h : Vw K mg H φ S v (.tup ds)) : ∃ a vs, v = .ref a ∧ SqT K H a vs ∧ Dats K mg H (Mu φ S) vs ds := by
  cases h with
  | dat h => cases h with | tup s r => exact ⟨_, _, rfl, s.sq, r⟩
theorem Vw.seq {v : V} {d : D} {ds : List D} (h : Vw K mg H φ S v d) (e : seqOf d = some ds) : ∃ a vs, v = .ref a ∧ (SqL K H a vs ∨ SqT K H a vs) ∧ Dats K mg H (Mu φ S) vs ds := by
  cases d with
  | lst xs => cases e; obtain ⟨a, vs, e1, e2, e3⟩ := h.lst; exact ⟨a, vs, e1, .inl (.of e2), e3⟩
  | tup xs => cases e; obtain ⟨a, vs, e1, e2, e3⟩ := h.tup; exact ⟨a, vs, e1, .inr e2, e3⟩
  | _ => cases e
theorem Vw.int {v : V} {i : Int} (h : Vw K mg H φ S v (.int i)) : v = .int i := by cases h with | dat h => cases h; rfl
theorem Vw.str {v : V} {x : Str} (h : Vw K mg H φ S v (.str x)) : v = .str x := by cases h with | dat h => cases h; rfl
theorem Vw.bl {v : V} {b : Bool} (h : Vw K mg H φ S v (.bl b)) : v = .bl b := by cases h with | dat h => cases h; rfl
theorem Vw.non {v : V} (h : Vw K mg H φ S v .non) : v = .non := by cases h with | dat h => cases h; rfl
theorem Vw.glo {v : V} {x : Str} (h : Vw K mg H φ S v (.glo x)) : ∃ a, v = .ref a ∧ mg x = some (.ref a) := by cases h with | dat h => cases h with | glo e => exact ⟨_, rfl, e⟩
theorem rep_int {v : V} {i : Int} (h : Rep K mg H φ S v (.int i)) : v = .int i := by cases h with | dat h => cases h; rfl
theorem rep_str {v : V} {i : Str} (h : Rep K mg H φ S v (.str i)) : v = .str i := by cases h with | dat h => cases h; rfl
theorem rep_bl {v : V} {i : Bool} (h : Rep K mg H φ S v (.bl i)) : v = .bl i := by cases h with | dat h => cases h; rfl
theorem rep_non {v : V} (h : Rep K mg H φ S v .non) : v = .non := by cases h with | dat h => cases h; rfl
end
end VS

/-! VS, part D: operators. -/
namespace VS
open PySem PySem.Spec L2 PyProof.Rows

theorem line_eq : (line : Nat) = sizeLine := by rw [sizeLine_eq]
section
variable {X : Cx}
def opOf : Bop → Operator
  | .add => .Add | .sub => .Sub | .mul => .Mult | .fdiv => .FloorDiv | .mod => .Mod | .pow => .Pow

theorem need_ans {K : PySem.W.Frag} {mg : Str → Option Value} {H : Hp} {φ : Ad} {S : Cells} {c : Bool} {r : R D} {Q : VK} (h : Ans K mg (.need c r) H φ S Q) : c = true ∧ Ans K mg r H φ S Q := by
  cases c with
  | true => exact ⟨rfl, h⟩
  | false => exact h.elim
theorem newL_ans {K : PySem.W.Frag} {mg : Str → Option Value} {H : Hp} {φ : Ad} {S : Cells} {ds : List D} {vs : List V} {Q : VK} (st : StOk K mg H φ S) (r : Dats K mg H (Mu φ S) vs ds) (h : Ans K mg (newL ds S) H φ S Q)
    {p : Addr} (hp : H p = none) : Q (.ref p) (upd H p (.lst vs)) := by
  obtain ⟨a, b, c⟩ := lay_lst st hp r
  exact h _ _ _ a b c
theorem newT_ans {K : PySem.W.Frag} {mg : Str → Option Value} {H : Hp} {φ : Ad} {S : Cells} {ds : List D} {vs : List V} {Q : VK} (st : StOk K mg H φ S) (r : Dats K mg H (Mu φ S) vs ds) (h : Ans K mg (.ok (.tup ds) S) H φ S Q)
    {p : Addr} (hp : H p = none) : Q (.ref p) (upd H p (.tup vs)) := by
  obtain ⟨a, b, c⟩ := lay_tup st hp r
  exact h _ _ _ a (.dat b) c
theorem Vw.rep {K : PySem.W.Frag} {mg : Str → Option Value} {H : Hp} {φ : Ad} {S : Cells} {v : V} {ds : List D} (h : Vw K mg H φ S v (.tup ds)) : Rep K mg H φ S v (.tup ds) := by
  cases h with | dat h => exact .dat h

/-- a op b, read by the interpreter -/
def rBin (K : PySem.W.Frag) (mg : Str → Option Value) (op : Bop) : R2 := fun x y H Q => ∃ φ S a b, StOk K mg H φ S ∧ Vw K mg H φ S x a ∧ Vw K mg H φ S y b ∧ Ans K mg (binV op a b S) H φ S Q
theorem sl_line {n : Nat} (h : decide (n ≤ line) = true) : n ≤ sizeLine := by rw [← line_eq]; exact of_decide_eq_true h
theorem mulOk_ok {i j : Int} (h : mulOk i j = true) : IntMulOk i j := by
  unfold mulOk at h
  simp only [Bool.or_eq_true, decide_eq_true_eq] at h
  rcases h with (h | h) | h
  · exact .of_left h
  · exact .of_right h
  · unfold IntMulOk
    intro z
    rw [Bool.and_eq_true] at z
    have z2 := z.2
    unfold Builtin.Int.intTooBig at z2
    have z3 := of_decide_eq_true z2
    have e : bitsLine = 134217728 := by decide
    rw [e] at z3
    omega
theorem here_i {K : PySem.W.Frag} {mg : Str → Option Value} {H : Hp} {φ : Ad} {S : Cells} {i : Int} {Q : VK} (st : StOk K mg H φ S) (h : Ans K mg (.ok (.int i) S) H φ S Q) : Q (.int i) H := h.here st (.dat (.int i))
theorem here_b {K : PySem.W.Frag} {mg : Str → Option Value} {H : Hp} {φ : Ad} {S : Cells} {i : Bool} {Q : VK} (st : StOk K mg H φ S) (h : Ans K mg (.ok (.bl i) S) H φ S Q) : Q (.bl i) H := h.here st (.dat (.bl i))
theorem here_s {K : PySem.W.Frag} {mg : Str → Option Value} {H : Hp} {φ : Ad} {S : Cells} {i : Str} {Q : VK} (st : StOk K mg H φ S) (h : Ans K mg (.ok (.str i) S) H φ S Q) : Q (.str i) H := h.here st (.dat (.str i))
theorem here_n {K : PySem.W.Frag} {mg : Str → Option Value} {H : Hp} {φ : Ad} {S : Cells} {Q : VK} (st : StOk K mg H φ S) (h : Ans K mg (.ok .non S) H φ S Q) : Q .non H := h.here st (.dat .non)

/-- tuple * int -/
theorem rep_tup_any {pins : List (Addr × Obj)} {s : Shared} {σ : L2.St} {H : Hp} {l : Addr} {xs : List V} {k : Int} {t : Tok} {Q : VK} (I : Inv X pins σ H s) (hT : SqT X.K H l xs) (hne : xs ≠ []) (h1 : 2 ≤ k) (h2 : k ≤ 1000) (hz : xs.length ≤ 1000)
    (q : ∀ p, H p = none → Q (.ref p) (upd H p (.tup (List.replicate k.toNat xs).flatten))) : wpAny (model X.prog X.w) X.A (binaryOp .Mult (.ref l) (.int k t)) (EP X pins σ Q) X.xe s :=
  op_repT pins s σ H (.ref l) (.int k) _ _ Q I rfl ⟨t, rfl⟩ ⟨l, k, xs, rfl, rfl, hT, hne, h1, h2, hz, q⟩

theorem op_pow2 : OpR X (binaryOp .Pow) (rI (fun i j => powOk i j = true) fun i j => .int (i ^ j.toNat)) := opI fun _ _ _ _ _ _ _ hc q => by
  unfold powOk at hc
  simp only [Bool.and_eq_true, decide_eq_true_eq] at hc
  exact pow_int hc.1 hc.2 q
theorem op_mul2 : OpR X (binaryOp .Mult) (rI (fun i j => mulOk i j = true) fun i j => .int (i * j)) := opI fun _ _ _ _ _ _ _ hc q => mul_int q (mulOk_ok hc)
theorem divOk_ok {j : Int} (h : divOk j = true) (i : Int) : CDivW i j := by
  unfold divOk at h
  simp only [Bool.and_eq_true, decide_eq_true_eq] at h
  exact h

theorem or_bin (op : Bop) : OpR X (binaryOp (opOf op)) (rBin X.K X.mg op) := by
  intro pins s σ H x y v u Q I rx ry ⟨φ, S, a, b, st, va, vb, h⟩
  cases op with
  | add =>
    cases a <;> try (exact h.elim)
    case int i =>
      cases b <;> try (exact h.elim)
      case int j => rw [va.int] at rx; rw [vb.int] at ry; exact op_add pins s σ H _ _ v u Q I rx ry ⟨i, j, rfl, rfl, here_i st h⟩
    case str i =>
      cases b <;> try (exact h.elim)
      case str j =>
        rw [va.str] at rx; rw [vb.str] at ry
        obtain ⟨c, h⟩ := need_ans h
        exact op_add_str pins s σ H _ _ v u Q I rx ry ⟨i, j, rfl, rfl, sl_line c, here_s st h⟩
    case lst i =>
      cases b <;> try (exact h.elim)
      case lst j =>
        obtain ⟨p, xs, e1, e2, e3⟩ := va.lst
        obtain ⟨q, ys, f1, f2, f3⟩ := vb.lst
        subst e1 f1
        obtain ⟨c, h⟩ := need_ans h
        refine op_cat pins s σ H _ _ v u Q I rx ry ⟨p, q, xs, ys, rfl, rfl, e2, f2, ?_, fun r hr => newL_ans st (e3.append f3) h hr⟩
        rw [e3.length, f3.length]; exact sl_line c
    case tup i =>
      cases b <;> try (exact h.elim)
      case tup j =>
        obtain ⟨p, xs, e1, e2, e3⟩ := va.tup
        obtain ⟨q, ys, f1, f2, f3⟩ := vb.tup
        subst e1 f1
        obtain ⟨c, h⟩ := need_ans h
        refine op_catA pins s σ H _ _ v u Q I rx ry ⟨p, q, xs, ys, rfl, rfl, e2, f2, ?_, fun e => ?_, fun n e => ?_, fun _ _ r hr => newT_ans st (e3.append f3) h hr⟩
        · rw [e3.length, f3.length]; exact sl_line c
        · have : i = [] := by have := e3.length; rw [e] at this; exact List.eq_nil_of_length_eq_zero this.symm
          subst this
          exact h.here st vb.rep
        · have : j = [] := by have := f3.length; rw [e] at this; exact List.eq_nil_of_length_eq_zero this.symm
          subst this
          rw [List.append_nil] at h
          exact h.here st va.rep
  | sub =>
    cases a <;> try (exact h.elim)
    case int i =>
      cases b <;> try (exact h.elim)
      case int j => rw [va.int] at rx; rw [vb.int] at ry; exact op_sub pins s σ H _ _ v u Q I rx ry ⟨i, j, rfl, rfl, here_i st h⟩
  | mul =>
    cases a <;> try (exact h.elim)
    case int i =>
      cases b <;> try (exact h.elim)
      case int j =>
        rw [va.int] at rx; rw [vb.int] at ry
        obtain ⟨c, h⟩ := need_ans h
        exact op_mul2 pins s σ H _ _ v u Q I rx ry ⟨i, j, rfl, rfl, c, here_i st h⟩
    case lst i =>
      cases b <;> try (exact h.elim)
      case int j =>
        obtain ⟨p, xs, e1, e2, e3⟩ := va.lst
        subst e1
        rw [vb.int] at ry
        obtain ⟨c, h⟩ := need_ans h
        simp only [Bool.and_eq_true, decide_eq_true_eq] at c
        refine op_rep pins s σ H _ _ v u Q I rx ry ⟨p, j, xs, rfl, rfl, e2, by omega, by omega, ?_, fun r hr => newL_ans st (e3.flatten j.toNat) h hr⟩
        rw [e3.length, ← line_eq]; exact c.2
    case tup i =>
      cases b <;> try (exact h.elim)
      case int j =>
        obtain ⟨p, xs, e1, e2, e3⟩ := va.tup
        subst e1
        rw [vb.int] at ry
        obtain ⟨c, h⟩ := need_ans h
        simp only [Bool.and_eq_true, decide_eq_true_eq, Bool.not_eq_true', List.isEmpty_eq_false_iff] at c
        refine op_repT pins s σ H _ _ v u Q I rx ry ⟨p, j, xs, rfl, rfl, e2, ?_, c.1.1.2, c.1.2, by rw [e3.length]; exact c.2, fun r hr => newT_ans st (e3.flatten j.toNat) h hr⟩
        intro z
        subst z
        cases e3
        exact c.1.1.1 rfl
  | fdiv =>
    cases a <;> try (exact h.elim)
    case int i =>
      cases b <;> try (exact h.elim)
      case int j =>
        rw [va.int] at rx; rw [vb.int] at ry
        obtain ⟨c, h⟩ := need_ans h
        exact op_fdivW pins s σ H _ _ v u Q I rx ry ⟨i, j, rfl, rfl, divOk_ok c i, here_i st h⟩
  | mod =>
    cases a <;> try (exact h.elim)
    case int i =>
      cases b <;> try (exact h.elim)
      case int j =>
        rw [va.int] at rx; rw [vb.int] at ry
        obtain ⟨c, h⟩ := need_ans h
        exact op_mod pins s σ H _ _ v u Q I rx ry ⟨i, j, rfl, rfl, of_decide_eq_true c, here_i st h⟩
  | pow =>
    cases a <;> try (exact h.elim)
    case int i =>
      cases b <;> try (exact h.elim)
      case int j =>
        rw [va.int] at rx; rw [vb.int] at ry
        obtain ⟨c, h⟩ := need_ans h
        exact op_pow2 pins s σ H _ _ v u Q I rx ry ⟨i, j, rfl, rfl, c, here_i st h⟩
end
end VS

/-! VS, part E: comparisons. -/
namespace VS
open PySem PySem.Spec L2 PyProof.Rows

mutual
theorem lay_py : ∀ d : D, d.dat = true → d.py.canLay0 = true
  | .non, _ => rfl
  | .bl _, _ => rfl
  | .int _, _ => rfl
  | .str s, h => h
  | .tup xs, h => lay_pys xs h
  | .lst xs, h => lay_pys xs h
  | .dic _ _, h => nomatch h
  | .set _, h => nomatch h
  | .ref _, h => nomatch h
  | .glo _, h => nomatch h
  | .ty _, h => nomatch h
  | .scr _, h => nomatch h
theorem lay_pys : ∀ ds : List D, D.dats ds = true → PyData.canLayAll0 (D.pys ds) = true
  | [], _ => rfl
  | d :: ds, h => by
    have h' : (d.dat && D.dats ds) = true := h
    rw [Bool.and_eq_true] at h'
    show (d.py.canLay0 && PyData.canLayAll0 (D.pys ds)) = true
    rw [lay_py d h'.1, lay_pys ds h'.2] <;> rfl
end
mutual
theorem dep_py : ∀ d : D, d.py.depth = d.dep
  | .non => rfl
  | .bl _ => rfl
  | .int _ => rfl
  | .str s => rfl
  | .tup xs => congrArg (· + 1) (dep_pys xs)
  | .lst xs => congrArg (· + 1) (dep_pys xs)
  | .dic _ _ => rfl
  | .set _ => rfl
  | .ref _ => rfl
  | .glo _ => rfl
  | .ty _ => rfl
  | .scr _ => rfl
theorem dep_pys : ∀ ds : List D, PyData.depthAll (D.pys ds) = D.deps ds
  | [] => rfl
  | d :: ds => by
    show max d.py.depth (PyData.depthAll (D.pys ds)) = max d.dep (D.deps ds)
    rw [dep_py d, dep_pys ds]
end
mutual
theorem eqv_py : ∀ d e : D, d.dat = true → e.dat = true → PyData.eqv d.py e.py = eqD d e
  | .non, e, _, h => by cases e <;> first | rfl | exact nomatch h
  | .bl _, e, _, h => by cases e <;> first | rfl | exact nomatch h
  | .int _, e, _, h => by cases e <;> first | rfl | exact nomatch h
  | .str s, e, _, h => by cases e <;> first | rfl | exact nomatch h
  | .tup xs, e, h0, h => by
    cases e with
    | tup ys => exact eqv_pys xs ys h0 h
    | _ => first | rfl | exact nomatch h
  | .lst xs, e, h0, h => by
    cases e with
    | lst ys => exact eqv_pys xs ys h0 h
    | _ => first | rfl | exact nomatch h
  | .dic _ _, _, h, _ => nomatch h
  | .set _, _, h, _ => nomatch h
  | .ref _, _, h, _ => nomatch h
  | .glo _, _, h, _ => nomatch h
  | .ty _, _, h, _ => nomatch h
  | .scr _, _, h, _ => nomatch h
theorem eqv_pys : ∀ ds es : List D, D.dats ds = true → D.dats es = true → PyData.eqvAll (D.pys ds) (D.pys es) = eqDs ds es
  | [], [], _, _ => rfl
  | [], _ :: _, _, _ => rfl
  | _ :: _, [], _, _ => rfl
  | d :: ds, e :: es, h, h' => by
    have h1 : (d.dat && D.dats ds) = true := h
    have h2 : (e.dat && D.dats es) = true := h'
    rw [Bool.and_eq_true] at h1 h2
    show (PyData.eqv d.py e.py && PyData.eqvAll (D.pys ds) (D.pys es)) = (eqD d e && eqDs ds es)
    rw [eqv_py d e h1.1 h2.1, eqv_pys ds es h1.2 h2.2]
end
section
variable {K : PySem.W.Frag} {mg : Str → Option Value} {H : Hp} {M : Addr → Prop} {φ : Ad} {S : Cells}
mutual
theorem Dat.dp : ∀ {d : D} {v : V}, Dat K mg H M v d → d.dat = true → Dp K H v d.py
  | .non, _, h, _ => by cases h; exact .non
  | .bl _, _, h, _ => by cases h; exact .bl _
  | .int _, _, h, _ => by cases h; exact .int _
  | .str _, _, h, _ => by cases h; exact .str _
  | .tup ds, _, h, q => by cases h with | tup s r => exact .tup s.sq (Dats.dp r q)
  | .lst ds, _, h, q => by cases h with | lst s n r => exact .lst (.of s) (Dats.dp r q)
  | .dic _ _, _, h, _ => by cases h
  | .set _, _, h, _ => by cases h
  | .ref _, _, h, _ => by cases h
  | .glo _, _, _, q => nomatch q
  | .ty _, _, _, q => nomatch q
  | .scr _, _, _, q => nomatch q
theorem Dats.dp : ∀ {ds : List D} {vs : List V}, Dats K mg H M vs ds → D.dats ds = true → DpAll K H vs (D.pys ds)
  | [], _, h, _ => by cases h; exact .nil
  | d :: ds, _, h, q => by
    have h1 : (d.dat && D.dats ds) = true := q
    rw [Bool.and_eq_true] at h1
    cases h with
    | cons a b => exact .cons (Dat.dp a h1.1) (Dats.dp b h1.2)
end
theorem Vw.dp {v : V} {d : D} (h : Vw K mg H φ S v d) (q : d.dat = true) : Dp K H v d.py := by
  cases h with
  | dat h => exact h.dp q
  | cell e r => exact .lst (.of e) (r.dp q)
theorem flat_V {v : V} {d : D} (h : Dat K mg H M v d) (q : d.flat = true) : flatV v = true := by
  cases h <;> first | rfl | (simp [D.flat] at q; done)
theorem flats_V : ∀ {ds : List D} {vs : List V}, Dats K mg H M vs ds → ds.all D.flat = true → vs.all flatV = true
  | [], _, h, _ => by cases h; rfl
  | d :: ds, _, h, q => by
    rw [List.all_cons, Bool.and_eq_true] at q
    cases h with
    | cons a b => rw [List.all_cons, flat_V a q.1, flats_V b q.2] <;> rfl
theorem eq_V {v w : V} {d e : D} (h : Dat K mg H M v d) (h' : Dat K mg H M w e) (q : d.flat = true) (q' : e.flat = true) : L2.eqV v w = eqD d e := by
  cases h <;> first | (simp [D.flat] at q; done) | (cases h' <;> first | rfl | (simp [D.flat] at q'; done))
theorem any_V {w : V} {e : D} (h' : Dat K mg H M w e) (q' : e.flat = true) : ∀ {ds : List D} {vs : List V}, Dats K mg H M vs ds → ds.all D.flat = true → (vs.any fun y => L2.eqV y w) = ds.any fun z => eqD z e
  | [], _, h, _ => by cases h; rfl
  | d :: ds, _, h, q => by
    rw [List.all_cons, Bool.and_eq_true] at q
    cases h with
    | cons a b => rw [List.any_cons, List.any_cons, eq_V a h' q.1 q', any_V h' q' b q.2]
theorem Vw.flat {v : V} {d : D} (h : Vw K mg H φ S v d) (q : d.flat = true) : Dat K mg H (Mu φ S) v d := by
  cases h with
  | dat h => exact h
  | cell e r => exact nomatch q
theorem dec_V {v w : V} {d e : D} (h : Dat K mg H M v d) (h' : Dat K mg H M w e) (q : d.flat = true) (q' : e.flat = true) (sc : scal v w = true) : decide (v = w) = eqD d e := by
  cases h <;> first | (simp [D.flat] at q; done) | (cases h' <;> first | exact dec_int | exact dec_bl | exact dec_str | (simp [eqD]; done) | (simp [D.flat] at q'; done) | (simp [scal] at sc; done))
theorem scal_V {v w : V} {d e : D} (h : Dat K mg H M v d) (h' : Dat K mg H M w e) (q : d.flat = true) (q' : e.flat = true) (sc : scal v w = false) : d.dat = true ∧ e.dat = true ∧ d.dep = 0 := by
  cases h <;> first | (simp [D.flat] at q; done) | (cases h' <;> first | (simp [scal] at sc; done) | (simp [D.flat] at q'; done) | exact ⟨rfl, rfl, rfl⟩)
end
section
variable {X : Cx}
def cOf : Cop → CmpOp
  | .eq => .Eq | .ne => .NotEq | .lt => .Lt | .le => .LtE | .gt => .Gt | .ge => .GtE | .isin => .In | .notin => .NotIn | .isN => .Is | .notN => .IsNot
/-- a comparison, read by the interpreter -/
def rCmp (K : PySem.W.Frag) (mg : Str → Option Value) (op : Cop) : R2 := fun x y H Q => ∃ φ S a b, StOk K mg H φ S ∧ Vw K mg H φ S x a ∧ Vw K mg H φ S y b ∧ Ans K mg (bR (cmpV op a b) S) H φ S Q
theorem here_o {K : PySem.W.Frag} {mg : Str → Option Value} {H : Hp} {φ : Ad} {S : Cells} {o : Option Bool} {Q : VK} (st : StOk K mg H φ S) (h : Ans K mg (bR o S) H φ S Q) : ∃ b, o = some b ∧ Q (.bl b) H := by
  cases o with
  | none => exact h.elim
  | some b => exact ⟨b, rfl, here_b st h⟩
/-- == of data, whatever they are -/
theorem or_eqD (hu : X.A.units + 100 < cLine) {pins : List (Addr × Obj)} {s : Shared} {σ : L2.St} {H : Hp} {φ : Ad} {S : Cells} {x y : V} {v u : Value} {a b : D} {k : Bool} (I : Inv X pins σ H s) (rx : RelV x v) (ry : RelV y u)
    (va : Vw X.K X.mg H φ S x a) (vb : Vw X.K X.mg H φ S y b) (e : eqV a b = some k) :
    (∀ Q : VK, Q (.bl k) H → wpAny (model X.prog X.w) X.A (compareOp .Eq v u) (EP X pins σ Q) X.xe s) ∧ (∀ Q : VK, Q (.bl (!k)) H → wpAny (model X.prog X.w) X.A (compareOp .NotEq v u) (EP X pins σ Q) X.xe s) := by
  have main : a.dat = true → b.dat = true → (a.dep ≤ 64 ∨ b.dep ≤ 64) → k = eqD a b → ((∀ Q : VK, Q (.bl k) H → wpAny (model X.prog X.w) X.A (compareOp .Eq v u) (EP X pins σ Q) X.xe s) ∧ (∀ Q : VK, Q (.bl (!k)) H → wpAny (model X.prog X.w) X.A (compareOp .NotEq v u) (EP X pins σ Q) X.xe s)) := fun da db hd hk => by
    obtain ⟨as, r1⟩ := Dp.reads I a.py x v (va.dp da) rx
    obtain ⟨bs, r2⟩ := Dp.reads I b.py y u (vb.dp db) ry
    have hm : X.A.units + min a.py.depth b.py.depth < cLine := by rw [dep_py, dep_py]; omega
    exact ⟨fun Q q => SeqAt.compareEq_reads r1 r2 (lay_py a da) (lay_py b db) hm (by rw [eqv_py a b da db, ← hk]; exact ⟨.bl _, H, I, rfl, q⟩),
      fun Q q => SeqAt.compareNe_reads r1 r2 (lay_py a da) (lay_py b db) hm (by rw [eqv_py a b da db, ← hk]; exact ⟨.bl _, H, I, rfl, q⟩)⟩
  unfold eqV at e
  split at e
  · rename_i hf
    rw [Bool.and_eq_true] at hf
    have hk : k = eqD a b := (Option.some.inj e).symm
    have fa := va.flat hf.1
    have fb := vb.flat hf.2
    cases sc : scal x y with
    | true =>
      have hd := dec_V fa fb hf.1 hf.2 sc
      rw [← hk] at hd
      exact ⟨fun Q q => op_eq pins s σ H x y v u Q I rx ry ⟨sc, by rw [hd]; exact q⟩, fun Q q => op_ne pins s σ H x y v u Q I rx ry ⟨sc, by rw [hd]; exact q⟩⟩
    | false =>
      obtain ⟨h1, h2, h3⟩ := scal_V fa fb hf.1 hf.2 sc
      exact main h1 h2 (.inl (by omega)) hk
  · split at e
    · rename_i hd
      simp only [Bool.and_eq_true, Bool.or_eq_true, decide_eq_true_eq] at hd
      exact main hd.1.1 hd.1.2 hd.2 (Option.some.inj e).symm
    · cases e

theorem strLt_eq (a b : Str) : strLt a b = decide (a.cps.toList < b.cps.toList) := rfl
/-- x in a list or tuple -/
theorem or_inD (hu : X.A.units + 100 < cLine) {pins : List (Addr × Obj)} {s : Shared} {σ : L2.St} {H : Hp} {φ : Ad} {S : Cells} {x y : V} {v u : Value} {a b : D} {k : Bool} (I : Inv X pins σ H s) (rx : RelV x v) (ry : RelV y u)
    (va : Vw X.K X.mg H φ S x a) (vb : Vw X.K X.mg H φ S y b) (e : inV a b = some k) :
    (∀ Q : VK, Q (.bl k) H → wpAny (model X.prog X.w) X.A (compareOp .In v u) (EP X pins σ Q) X.xe s) ∧ (∀ Q : VK, Q (.bl (!k)) H → wpAny (model X.prog X.w) X.A (compareOp .NotIn v u) (EP X pins σ Q) X.xe s) := by
  have flatC : ∀ {p : Addr} {vs : List V} {ds : List D}, y = .ref p → (SqL X.K H p vs ∨ SqT X.K H p vs) → Dats X.K X.mg H (Mu φ S) vs ds → a.flat = true → ds.all D.flat = true → k = (ds.any fun z => eqD z a) →
      ((∀ Q : VK, Q (.bl k) H → wpAny (model X.prog X.w) X.A (compareOp .In v u) (EP X pins σ Q) X.xe s) ∧ (∀ Q : VK, Q (.bl (!k)) H → wpAny (model X.prog X.w) X.A (compareOp .NotIn v u) (EP X pins σ Q) X.xe s)) := fun {p vs ds} ey hs hd fa fs hk => by
    have f1 := va.flat fa
    have e1 := any_V f1 fa hd fs
    have e2 : L2.inV x vs = k := by rw [hk]; exact e1
    refine ⟨fun Q q => op_in_seq pins s σ H x y v u Q I rx ry ⟨p, vs, ey, hs, flat_V f1 fa, flats_V hd fs, ?_⟩, fun Q q => op_notIn_seq pins s σ H x y v u Q I rx ry ⟨p, vs, ey, hs, flat_V f1 fa, flats_V hd fs, ?_⟩⟩
    · rw [e2]; exact q
    · rw [e2]; exact q
  have any_py : ∀ (ds : List D), D.dats ds = true → a.dat = true → (D.pys ds).any (fun z => PyData.eqv z a.py) = ds.any fun z => eqD z a := by
    intro ds
    induction ds with
    | nil => intro _ _; rfl
    | cons d ds ih =>
      intro h ha
      have h1 : (d.dat && D.dats ds) = true := h
      rw [Bool.and_eq_true] at h1
      show (PyData.eqv d.py a.py || (D.pys ds).any (fun z => PyData.eqv z a.py)) = (eqD d a || ds.any fun z => eqD z a)
      rw [eqv_py d a h1.1 ha, ih h1.2 ha]
  cases b with
  | lst ds =>
    obtain ⟨p, vs, ey, e2, e3⟩ := vb.lst
    unfold inV at e
    simp only at e
    split at e
    · rename_i hf
      rw [Bool.and_eq_true] at hf
      exact flatC ey (.inl (.of e2)) e3 hf.1 hf.2 (Option.some.inj e).symm
    · split at e
      · rename_i hd
        simp only [Bool.and_eq_true, decide_eq_true_eq] at hd
        obtain ⟨bs, r2⟩ := Dp.reads I a.py x v (va.dp hd.1.1) rx
        obtain ⟨as, r1⟩ := Dp.reads I (D.lst ds).py y u (vb.dp hd.1.2) ry
        have hk : k = ds.any fun z => eqD z a := (Option.some.inj e).symm
        have hm : X.A.units + 1 + min (PyData.depthAll (D.pys ds)) a.py.depth < cLine := by rw [dep_py, dep_pys]; omega
        exact ⟨fun Q q => SeqAt.in_list_reads r1 r2 (lay_pys ds hd.1.2) (lay_py a hd.1.1) hm (by rw [any_py ds hd.1.2 hd.1.1, ← hk]; exact ⟨.bl _, H, I, rfl, q⟩),
          fun Q q => SeqAt.notIn_list_reads r1 r2 (lay_pys ds hd.1.2) (lay_py a hd.1.1) hm (by rw [any_py ds hd.1.2 hd.1.1, ← hk]; exact ⟨.bl _, H, I, rfl, q⟩)⟩
      · cases e
  | tup ds =>
    obtain ⟨p, vs, ey, e2, e3⟩ := vb.tup
    unfold inV at e
    simp only at e
    split at e
    · rename_i hf
      rw [Bool.and_eq_true] at hf
      exact flatC ey (.inr e2) e3 hf.1 hf.2 (Option.some.inj e).symm
    · split at e
      · rename_i hd
        simp only [Bool.and_eq_true, decide_eq_true_eq] at hd
        obtain ⟨bs, r2⟩ := Dp.reads I a.py x v (va.dp hd.1.1) rx
        obtain ⟨as, r1⟩ := Dp.reads I (D.tup ds).py y u (vb.dp hd.1.2) ry
        have hk : k = ds.any fun z => eqD z a := (Option.some.inj e).symm
        have hm : X.A.units + 1 + min (PyData.depthAll (D.pys ds)) a.py.depth < cLine := by rw [dep_py, dep_pys]; omega
        exact ⟨fun Q q => SeqAt.in_tuple_reads r1 r2 (lay_pys ds hd.1.2) (lay_py a hd.1.1) hm (by rw [any_py ds hd.1.2 hd.1.1, ← hk]; exact ⟨.bl _, H, I, rfl, q⟩),
          fun Q q => SeqAt.notIn_tuple_reads r1 r2 (lay_pys ds hd.1.2) (lay_py a hd.1.1) hm (by rw [any_py ds hd.1.2 hd.1.1, ← hk]; exact ⟨.bl _, H, I, rfl, q⟩)⟩
      · cases e
  | str t =>
    have ey := vb.str
    cases a with
    | str z =>
      have ex := va.str
      unfold inV at e
      simp only at e
      split at e
      · rename_i c hc
        have hz : z = ⟨#[c]⟩ := by
          cases z with
          | mk cs =>
            have : cs.toList = [c] := hc
            congr 1
            apply Array.ext'
            simpa using this
        have hk : k = decide (c ∈ t.cps.toList) := (Option.some.inj e).symm
        subst ex ey
        subst hz
        exact ⟨fun Q q => op_in_sign pins s σ H _ _ v u Q I rx ry ⟨c, t, rfl, rfl, by rw [← hk]; exact q⟩, fun Q q => op_notIn_sign pins s σ H _ _ v u Q I rx ry ⟨c, t, rfl, rfl, by rw [← hk]; exact q⟩⟩
      · cases e
    | _ => unfold inV at e; cases e
  | _ => unfold inV at e; cases e

theorem or_cmp (hu : X.A.units + 100 < cLine) (op : Cop) : OpR X (compareOp (cOf op)) (rCmp X.K X.mg op) := by
  intro pins s σ H x y v u Q I rx ry ⟨φ, S, a, b, st, va, vb, h⟩
  obtain ⟨k, e, q⟩ := here_o st h
  cases op with
  | eq => exact (or_eqD hu I rx ry va vb e).1 Q q
  | ne =>
    obtain ⟨k', e1, e2⟩ := Option.map_eq_some_iff.mp e
    subst e2
    exact (or_eqD hu I rx ry va vb e1).2 Q q
  | isin => exact (or_inD hu I rx ry va vb e).1 Q q
  | notin =>
    obtain ⟨k', e1, e2⟩ := Option.map_eq_some_iff.mp e
    subst e2
    exact (or_inD hu I rx ry va vb e1).2 Q q
  | lt =>
    cases a <;> try (cases e; done)
    case int i =>
      cases b <;> try (cases e; done)
      case int j => cases e; rw [va.int] at rx; rw [vb.int] at ry; exact op_lt pins s σ H _ _ v u Q I rx ry ⟨i, j, rfl, rfl, q⟩
    case str i =>
      cases b <;> try (cases e; done)
      case str j => cases e; rw [va.str] at rx; rw [vb.str] at ry; exact op_lt_str pins s σ H _ _ v u Q I rx ry ⟨i, j, rfl, rfl, q⟩
  | le =>
    cases a <;> try (cases e; done)
    case int i =>
      cases b <;> try (cases e; done)
      case int j => cases e; rw [va.int] at rx; rw [vb.int] at ry; exact op_le pins s σ H _ _ v u Q I rx ry ⟨i, j, rfl, rfl, q⟩
  | gt =>
    cases a <;> try (cases e; done)
    case int i =>
      cases b <;> try (cases e; done)
      case int j => cases e; rw [va.int] at rx; rw [vb.int] at ry; exact op_gt pins s σ H _ _ v u Q I rx ry ⟨i, j, rfl, rfl, q⟩
  | ge =>
    cases a <;> try (cases e; done)
    case int i =>
      cases b <;> try (cases e; done)
      case int j => cases e; rw [va.int] at rx; rw [vb.int] at ry; exact op_ge pins s σ H _ _ v u Q I rx ry ⟨i, j, rfl, rfl, q⟩
  | isN =>
    cases b <;> try (cases e; done)
    case non =>
      rw [vb.non] at ry
      refine op_isN pins s σ H x .non v u Q I rx ry ⟨rfl, ?_⟩
      cases a <;> try (cases e; done)
      case non => cases e; rw [va.non]; exact q
      case bl => cases e; rw [va.bl]; exact q
      case int => cases e; rw [va.int]; exact q
      case str => cases e; rw [va.str]; exact q
      case tup => cases e; obtain ⟨p, _, e1, _⟩ := va.tup; rw [e1]; exact q
      case lst => cases e; obtain ⟨p, _, e1, _⟩ := va.lst; rw [e1]; exact q
      case ref => cases va with | dat z => cases z
  | notN =>
    cases b <;> try (cases e; done)
    case non =>
      rw [vb.non] at ry
      refine op_notN pins s σ H x .non v u Q I rx ry ⟨rfl, ?_⟩
      cases a <;> try (cases e; done)
      case non => cases e; rw [va.non]; exact q
      case bl => cases e; rw [va.bl]; exact q
      case int => cases e; rw [va.int]; exact q
      case str => cases e; rw [va.str]; exact q
      case tup => cases e; obtain ⟨p, _, e1, _⟩ := va.tup; rw [e1]; exact q
      case lst => cases e; obtain ⟨p, _, e1, _⟩ := va.lst; rw [e1]; exact q
      case ref => cases va with | dat z => cases z
end
end VS

/-! VS, part F: subscripts, slices, truth, isinstance, built-ins, methods. -/
namespace VS
open PySem PySem.Spec L2 PyProof.Rows

theorem atN_eq (n : Nat) (i : Int) : atN n i = ixN n i := by
  unfold atN ixN
  by_cases h : 0 ≤ i
  · rw [if_pos h, if_pos h]
    by_cases h2 : i.toNat < n
    · rw [if_pos h2, if_pos (by omega)]
    · rw [if_neg h2, if_neg (by omega)]
  · rw [if_neg h, if_neg h]
    by_cases h2 : 0 ≤ i + n
    · rw [if_pos h2, if_pos (by omega)]
    · rw [if_neg h2, if_neg (by omega)]
section
variable {K : PySem.W.Frag} {mg : Str → Option Value} {H : Hp} {M : Addr → Prop} {φ : Ad} {S : Cells}
theorem Dats.atI {vs : List V} {ds : List D} (h : Dats K mg H M vs ds) {i : Int} {j : Nat} {d : D} (e : atN ds.length i = some j) (e2 : ds[j]? = some d) : ∃ v, L2.atI vs i = some v ∧ Dat K mg H M v d := by
  obtain ⟨v, h1, h2⟩ := h.get e2
  refine ⟨v, ?_, h2⟩
  unfold L2.atI
  rw [h.length, ← atN_eq, e]
  exact h1
def optI : D → Option (Option Int)
  | .non => some none
  | .int i => some (some i)
  | _ => none
theorem bnd_eq {n d : Nat} {x : D} {k : Nat} (h : bnd n d x = some k) : ∃ o, optI x = some o ∧ k = HT.sIx n d o := by
  cases x with
  | non => cases h; exact ⟨none, rfl, rfl⟩
  | int i => cases h; exact ⟨some i, rfl, rfl⟩
  | _ => cases h
theorem bnd_none {n d : Nat} {x : D} (h : optI x = none) : bnd n d x = none := by
  cases x with
  | non => cases h
  | int i => cases h
  | _ => rfl
end

section
variable {X : Cx}
/-- x[i], read by the interpreter -/
def rIxD (K : PySem.W.Frag) (mg : Str → Option Value) : R2 := fun x y H Q => ∃ φ S a b, StOk K mg H φ S ∧ Vw K mg H φ S x a ∧ Vw K mg H φ S y b ∧ Ans K mg (ixV a b S) H φ S Q
theorem or_ix : IxR X (rIxD X.K X.mg) := by
  intro value slice pins s σ H x y v u Q I rx ry ⟨φ, S, a, b, st, va, vb, h⟩ hs
  cases a <;> try (exact h.elim)
  case tup xs =>
    cases b <;> try (exact h.elim)
    case int i =>
      obtain ⟨p, vs, e1, e2, e3⟩ := va.tup
      subst e1
      rw [vb.int] at ry
      simp only [ixV] at h
      split at h
      · rename_i j hj
        split at h
        · rename_i d hd
          obtain ⟨w, f1, f2⟩ := e3.atI hj hd
          exact ix_tup value slice pins s σ H _ _ v u Q I rx ry ⟨p, vs, i, w, rfl, rfl, e2, f1, h.here st (.dat f2)⟩ hs
        · exact h.elim
      · exact h.elim
  case lst xs =>
    cases b <;> try (exact h.elim)
    case int i =>
      obtain ⟨p, vs, e1, e2, e3⟩ := va.lst
      subst e1
      rw [vb.int] at ry
      simp only [ixV] at h
      split at h
      · rename_i j hj
        split at h
        · rename_i d hd
          obtain ⟨w, f1, f2⟩ := e3.atI hj hd
          exact ix_list value slice pins s σ H _ _ v u Q I rx ry ⟨p, vs, i, w, rfl, rfl, .of e2, f1, h.here st (.dat f2)⟩ hs
        · exact h.elim
      · exact h.elim
  case str z =>
    cases b <;> try (exact h.elim)
    case int i =>
      rw [va.str] at rx
      rw [vb.int] at ry
      obtain ⟨c, h⟩ := need_ans h
      split at h
      · rename_i j hj
        split at h
        · rename_i d hd
          refine ix_str value slice pins s σ H _ _ v u Q I rx ry ⟨z, i, d, rfl, rfl, sl_line c, ?_, here_s st h⟩ hs
          unfold L2.atI
          rw [← atN_eq, hj]
          exact hd
        · exact h.elim
      · exact h.elim

/-- x[lo:hi], read by the interpreter -/
def rSlD (K : PySem.W.Frag) (mg : Str → Option Value) : V → Option Int → Option Int → Hp → VK → Prop := fun x lo hi H Q => ∃ φ S a l h, StOk K mg H φ S ∧ Vw K mg H φ S x a ∧ optI l = some lo ∧ optI h = some hi ∧ Ans K mg (slV a l h S) H φ S Q
theorem cut_V {K : PySem.W.Frag} {mg : Str → Option Value} {H : Hp} {M : Addr → Prop} {vs : List V} {ds : List D} {lo hi : Option Int} (h : Dats K mg H M vs ds) :
    Dats K mg H M (cutV vs lo hi) (cut ds (HT.sIx ds.length 0 lo) (HT.sIx ds.length ds.length hi)) := by
  unfold cutV cut
  rw [h.length]
  exact (h.drop _).take _
theorem or_sl : SlR X (rSlD X.K X.mg) := by
  intro pins s σ H x v vl vu lo hi sl Q I rx hs pl pu ⟨φ, S, a, l, u, st, va, el, eu, h⟩
  cases a <;> try (exact h.elim)
  case tup xs =>
    obtain ⟨p, vs, e1, e2, e3⟩ := va.tup
    subst e1
    simp only [slV] at h
    split at h
    · rename_i i j hi' hj'
      obtain ⟨o1, f1, f2⟩ := bnd_eq hi'
      obtain ⟨o2, g1, g2⟩ := bnd_eq hj'
      rw [el] at f1; cases f1
      rw [eu] at g1; cases g1
      subst f2 g2
      refine sl_tupA pins s σ H _ v vl vu lo hi sl Q I rx hs pl pu ⟨p, vs, rfl, e2, fun w => ?_, fun _ q hq => newT_ans st (cut_V e3) h hq⟩
      rw [e3.length] at w
      have e4 : cut xs (HT.sIx xs.length 0 lo) (HT.sIx xs.length xs.length hi) = xs := by
        unfold cut
        rw [w.1, w.2]
        simp
      rw [e4] at h
      exact h.here st va.rep
    · exact h.elim
  case lst xs =>
    obtain ⟨p, vs, e1, e2, e3⟩ := va.lst
    subst e1
    simp only [slV] at h
    split at h
    · rename_i i j hi' hj'
      obtain ⟨o1, f1, f2⟩ := bnd_eq hi'
      obtain ⟨o2, g1, g2⟩ := bnd_eq hj'
      rw [el] at f1; cases f1
      rw [eu] at g1; cases g1
      subst f2 g2
      exact sl_list pins s σ H _ v vl vu lo hi sl Q I rx hs pl pu ⟨p, vs, rfl, .of e2, fun q hq => newL_ans st (cut_V e3) h hq⟩
    · exact h.elim
  case scr ns =>
    obtain ⟨p, e1, e2⟩ := va.scr
    subst e1
    simp only [slV] at h
    split at h
    · rename_i i j hi' hj'
      obtain ⟨o1, f1, f2⟩ := bnd_eq hi'
      obtain ⟨o2, g1, g2⟩ := bnd_eq hj'
      rw [el] at f1; cases f1
      rw [eu] at g1; cases g1
      have hd : ∀ ns : List Int, Dats X.K X.mg H (Mu φ S) (ns.map V.int) (ns.map D.int) := fun ns => by
        induction ns with
        | nil => exact .nil
        | cons n ns ih => exact .cons (.int n) ih
      subst f2 g2
      refine sl_list pins s σ H _ v vl vu lo hi sl Q I rx hs pl pu ⟨p, _, rfl, e2, fun q hq => newL_ans st (?_ : Dats X.K X.mg H (Mu φ S) (cutV (ns.map V.int) lo hi) _) h hq⟩
      have := cut_V (lo := lo) (hi := hi) (hd ns)
      rw [List.length_map] at this
      exact this
    · exact h.elim
  case str z =>
    rw [va.str] at rx
    obtain ⟨c, h⟩ := need_ans h
    split at h
    · rename_i i j hi' hj'
      obtain ⟨o1, f1, f2⟩ := bnd_eq hi'
      obtain ⟨o2, g1, g2⟩ := bnd_eq hj'
      rw [el] at f1; cases f1
      rw [eu] at g1; cases g1
      subst f2 g2
      refine sl_str pins s σ H _ v vl vu lo hi sl Q I rx hs pl pu ⟨z, rfl, sl_line c, ?_⟩
      have e : cutS z lo hi = ⟨(cut z.cps.toList (HT.sIx z.cps.toList.length 0 lo) (HT.sIx z.cps.toList.length z.cps.toList.length hi)).toArray⟩ := by
        unfold cutS cut
        rw [show z.cps.toList.length = z.length by simp [Str.length]]
      rw [e]
      exact here_s st h
    · exact h.elim

/-! ### truth -/
theorem tru_V {K : PySem.W.Frag} {mg : Str → Option Value} {H : Hp} {φ : Ad} {S : Cells} {v : V} {d : D} {b : Bool} (st : StOk K mg H φ S) (r : Rep K mg H φ S v d) (h : truth S d = some b) : TruV K v H b := by
  unfold truth at h
  cases e : val S d with
  | none => rw [e] at h; cases h
  | some a =>
    rw [e] at h
    have w := val_vw st r e
    cases a <;> try (cases h; done)
    case non => cases h; rw [w.non]; exact rfl
    case bl k => cases h; rw [w.bl]; exact rfl
    case int i => cases h; rw [w.int]; exact rfl
    case str z =>
      simp only at h
      split at h
      · rename_i hl
        cases h
        rw [w.str]
        exact ⟨by rw [← line_eq]; exact hl, rfl⟩
      · cases h
    case tup xs =>
      cases h
      obtain ⟨p, vs, e1, e2, e3⟩ := w.tup
      rw [e1]
      refine .inr (.inl ⟨vs, e2, ?_⟩)
      have := e3.length
      cases vs <;> cases xs <;> first | rfl | simp at this
    case lst xs =>
      cases h
      obtain ⟨p, vs, e1, e2, e3⟩ := w.lst
      rw [e1]
      refine .inl ⟨vs, .of e2, ?_⟩
      have := e3.length
      cases vs <;> cases xs <;> first | rfl | simp at this

/-! ### isinstance -/
theorem ty_V {K : PySem.W.Frag} {mg : Str → Option Value} {H : Hp} {φ : Ad} {S : Cells} {v : V} {d : D} {t : String} (w : Vw K mg H φ S v d) (h : tyOf d = some t) : TyX K H v (.type t) := by
  cases d <;> try (cases h; done)
  case non => cases h; rw [w.non]; exact .base .non
  case bl => cases h; rw [w.bl]; exact .base (.bl _)
  case int => cases h; rw [w.int]; exact .base (.int _)
  case str => cases h; rw [w.str]; exact .base (.str _)
  case tup =>
    cases h
    cases w with
    | dat w =>
      cases w with
      | tup s r =>
        rcases s with ⟨s | ⟨o, s⟩, _⟩ | ⟨o, its, n, s, c, _⟩
        · exact .base (.tup s)
        · exact .fTuple s
        · exact .kTuple s c
  case lst => cases h; obtain ⟨p, vs, e1, e2, _⟩ := w.lst; rw [e1]; exact .base (.lst e2)
  case dic => cases w with | dat w => cases w
  case set => cases w with | dat w => cases w
def isiTys : List String := ["int", "bool", "str", "tuple", "list", "dict"]
theorem kit_all : (["NoneType", "bool", "int", "str", "tuple", "list"].all fun u => isiTys.all fun t => kitB u t == some (u == t || (u == "bool" && t == "int"))) = true := by decide +kernel
theorem kit_isi {d : D} {u t : String} (h : tyOf d = some u) (ht : isiTys.contains t = true) (hd : ∀ ks vs, d ≠ .dic ks vs) (hs : ∀ xs, d ≠ .set xs) : kitB u t = some (u == t || (u == "bool" && t == "int")) := by
  have hu : u ∈ ["NoneType", "bool", "int", "str", "tuple", "list"] := by
    cases d <;> first | (cases h; done) | (cases h; simp; done) | exact absurd rfl (hd _ _) | exact absurd rfl (hs _)
  have ht' : t ∈ isiTys := by simpa using ht
  have := List.all_eq_true.mp (List.all_eq_true.mp kit_all u hu) t ht'
  simpa using this

/-- isinstance(x, t) -/
def rIsiD (K : PySem.W.Frag) (mg : Str → Option Value) (t : String) : List V → Hp → VK → Prop := fun xs H Q => ∃ φ S x a, xs = [x, .ty t] ∧ isiTys.contains t = true ∧ StOk K mg H φ S ∧ Vw K mg H φ S x a ∧ Ans K mg (bR (isiV t a) S) H φ S Q
theorem or_isi (t : String) : CallR X (.builtin "isinstance") (rIsiD X.K X.mg t) := by
  intro pins s σ H xs us Q I r ⟨φ, S, x, a, ex, ht, st, va, h⟩
  obtain ⟨k, e, q⟩ := here_o st h
  unfold isiV at e
  cases hu : tyOf a with
  | none => rw [hu] at e; cases e
  | some u =>
    rw [hu] at e
    cases e
    refine call_isi pins s σ H xs us Q I r ⟨x, .ty t, .type u, .type t, _, ex, .ty t, ty_V va hu, kit_ty (kit_isi hu ht ?_ ?_), q⟩
    · rintro ks vs rfl; cases va with | dat w => cases w
    · rintro ys rfl; cases va with | dat w => cases w

/-! ### built-ins -/
theorem ints_V {K : PySem.W.Frag} {mg : Str → Option Value} {H : Hp} {M : Addr → Prop} : ∀ {ds : List D} {vs : List V} {is : List Int}, Dats K mg H M vs ds → intsD ds = some is → vs = is.map V.int
  | [], _, _, h, e => by cases h; cases e; rfl
  | d :: ds, _, _, h, e => by
    cases h with
    | cons a b =>
      cases d <;> try (cases e; done)
      case int i =>
        simp only [intsD] at e
        obtain ⟨js, e1, e2⟩ := Option.map_eq_some_iff.mp e
        subst e2
        cases a
        rw [ints_V b e1]
        rfl
theorem strs_V {K : PySem.W.Frag} {mg : Str → Option Value} {H : Hp} {M : Addr → Prop} : ∀ {ds : List D} {vs : List V} {is : List Str}, Dats K mg H M vs ds → strsD ds = some is → vs = is.map V.str
  | [], _, _, h, e => by cases h; cases e; rfl
  | d :: ds, _, _, h, e => by
    cases h with
    | cons a b =>
      cases d <;> try (cases e; done)
      case str i =>
        simp only [strsD] at e
        obtain ⟨js, e1, e2⟩ := Option.map_eq_some_iff.mp e
        subst e2
        cases a
        rw [strs_V b e1]
        rfl
theorem bools_V {K : PySem.W.Frag} {mg : Str → Option Value} {H : Hp} {M : Addr → Prop} : ∀ {ds : List D} {vs : List V} {is : List Bool}, Dats K mg H M vs ds → boolsD ds = some is → vs = is.map V.bl
  | [], _, _, h, e => by cases h; cases e; rfl
  | d :: ds, _, _, h, e => by
    cases h with
    | cons a b =>
      cases d <;> try (cases e; done)
      case bl i =>
        simp only [boolsD] at e
        obtain ⟨js, e1, e2⟩ := Option.map_eq_some_iff.mp e
        subst e2
        cases a
        rw [bools_V b e1]
        rfl
def bltId : Blt → Value
  | .len => .builtin "len" | .tuple => .type "tuple" | .list => .type "list" | .int => .type "int" | .abs => .builtin "abs" | .min2 => .builtin "min" | .max2 => .builtin "max"
  | .all => .builtin "all" | .any => .builtin "any" | .sum => .builtin "sum" | .repr => .builtin "repr" | _ => .none
def bltName : Blt → Str
  | .len => "len" | .tuple => "tuple" | .list => "list" | .int => "int" | .abs => "abs" | .min2 => "min" | .max2 => "max"
  | .all => "all" | .any => "any" | .sum => "sum" | .repr => "repr" | _ => ""
def bltOk : Blt → Bool
  | .len | .tuple | .list | .int | .abs | .min2 | .max2 | .all | .any | .sum | .repr => true
  | _ => false
def rBlt (K : PySem.W.Frag) (mg : Str → Option Value) (b : Blt) : List V → Hp → VK → Prop := fun vs H Q => ∃ φ S ds, StOk K mg H φ S ∧ Repl K mg H φ S vs ds ∧ Ans K mg (bltV b ds S) H φ S Q
theorem Repl.one {K : PySem.W.Frag} {mg : Str → Option Value} {H : Hp} {φ : Ad} {S : Cells} {vs : List V} {d : D} (h : Repl K mg H φ S vs [d]) : ∃ v, vs = [v] ∧ Rep K mg H φ S v d := by
  cases h with | cons a b => cases b; exact ⟨_, rfl, a⟩
theorem Repl.two {K : PySem.W.Frag} {mg : Str → Option Value} {H : Hp} {φ : Ad} {S : Cells} {vs : List V} {d e : D} (h : Repl K mg H φ S vs [d, e]) : ∃ v w, vs = [v, w] ∧ Rep K mg H φ S v d ∧ Rep K mg H φ S w e := by
  cases h with | cons a b => obtain ⟨w, e, r⟩ := b.one; subst e; exact ⟨_, _, rfl, a, r⟩
theorem one_ans {K : PySem.W.Frag} {mg : Str → Option Value} {H : Hp} {φ : Ad} {S : Cells} {v : V} {d : D} {f : D → R D} {Q : VK} (st : StOk K mg H φ S) (r : Rep K mg H φ S v d) (h : Ans K mg (one d S f) H φ S Q) : ∃ a, Vw K mg H φ S v a ∧ Ans K mg (f a) H φ S Q := by
  unfold one at h
  cases e : val S d with
  | none => rw [e] at h; exact h.elim
  | some a => rw [e] at h; exact ⟨a, val_vw st r e, h⟩

/-- repr of data -/
theorem repr_ok {pins : List (Addr × Obj)} {s : Shared} {σ : L2.St} {H : Hp} {φ : Ad} {S : Cells} {x : V} {v : Value} {a : D} {Q : VK} (hu : X.A.units + 100 < cLine) (I : Inv X pins σ H s) (rx : RelV x v) (va : Vw X.K X.mg H φ S x a) (hr : ∃ p, x = .ref p)
    (da : a.dat = true) (hs : a.py.showable = true) (hg : X.A.guards = some []) (hd : a.dep ≤ 64) (hl : a.py.shown.length ≤ sizeLine) (q : Q (.str a.py.shown) H) : wpAny (model X.prog X.w) X.A (call (.builtin "repr") [v]) (EP X pins σ Q) X.xe s := by
  obtain ⟨as, r1⟩ := Dp.reads I a.py x v (va.dp da) rx
  obtain ⟨p, rfl⟩ := hr
  cases rx
  have nd := PyData.hasDict_of_canLay a.py (lay_py a da)
  exact repr_of_reads' r1 hs (fun z => by rw [nd] at z; cases z) hg (by rw [dep_py]; omega) (fun _ _ e => e) (fun h' u tk k => ⟨.str _, H, I.kept k, ⟨u, rfl⟩, q⟩) hl

theorem or_blt (hc : X.calm = true) (hu : X.A.units + 100 < cLine) (hg : X.A.guards = some []) (b : Blt) (hb : bltOk b = true) : CallR X (bltId b) (rBlt X.K X.mg b) := by
  intro pins s σ H vs us Q I r ⟨φ, S, ds, st, rr, h⟩
  cases b <;> try (cases hb; done)
  case len =>
    match ds, rr, h with
    | [d], rr, h =>
      obtain ⟨v, ev, rv⟩ := rr.one
      obtain ⟨a, va, h⟩ := one_ans st rv h
      cases a <;> try (exact h.elim)
      case lst xs =>
        obtain ⟨p, ws, e1, e2, e3⟩ := va.lst
        exact call_len_seq pins s σ H vs us Q I r ⟨p, ws, by rw [ev, e1], .inl (.of e2), by rw [e3.length]; exact here_i st h⟩
      case tup xs =>
        obtain ⟨p, ws, e1, e2, e3⟩ := va.tup
        exact call_len_seq pins s σ H vs us Q I r ⟨p, ws, by rw [ev, e1], .inr e2, by rw [e3.length]; exact here_i st h⟩
      case str z =>
        obtain ⟨c, h⟩ := need_ans h
        exact call_len_str pins s σ H vs us Q I r ⟨z, by rw [ev, va.str], sl_line c, here_i st h⟩
    | [], _, h => exact h.elim
    | _ :: _ :: _, _, h => exact h.elim
  case tuple =>
    match ds, rr, h with
    | [d], rr, h =>
      obtain ⟨v, ev, rv⟩ := rr.one
      obtain ⟨a, va, h⟩ := one_ans st rv h
      cases a <;> try (exact h.elim)
      case lst xs =>
        obtain ⟨p, ws, e1, e2, e3⟩ := va.lst
        exact call_tuple_of pins s σ H vs us Q I r ⟨p, ws, by rw [ev, e1], .inl ⟨.of e2, fun l hl => newT_ans st e3 h hl⟩⟩
      case tup xs =>
        obtain ⟨p, ws, e1, e2, e3⟩ := va.tup
        exact call_tuple_of pins s σ H vs us Q I r ⟨p, ws, by rw [ev, e1], .inr ⟨e2, by rw [← e1]; exact h.here st va.rep⟩⟩
    | [], _, h => exact h.elim
    | _ :: _ :: _, _, h => exact h.elim
  case list =>
    match ds, rr, h with
    | [d], rr, h =>
      obtain ⟨v, ev, rv⟩ := rr.one
      obtain ⟨a, va, h⟩ := one_ans st rv h
      cases a <;> try (exact h.elim)
      case lst xs =>
        obtain ⟨p, ws, e1, e2, e3⟩ := va.lst
        exact call_list_of pins s σ H vs us Q I r ⟨p, ws, by rw [ev, e1], .inl (.of e2), fun l hl => newL_ans st e3 h hl⟩
      case tup xs =>
        obtain ⟨p, ws, e1, e2, e3⟩ := va.tup
        exact call_list_of pins s σ H vs us Q I r ⟨p, ws, by rw [ev, e1], .inr e2, fun l hl => newL_ans st e3 h hl⟩
    | [], _, h => exact h.elim
    | _ :: _ :: _, _, h => exact h.elim
  case int =>
    match ds, rr, h with
    | [d], rr, h =>
      obtain ⟨v, ev, rv⟩ := rr.one
      cases d <;> try (exact h.elim)
      case int i => exact call_int1 pins s σ H vs us Q I r (.inl ⟨i, by rw [ev, rep_int rv], here_i st h⟩)
      case bl k => exact call_int1 pins s σ H vs us Q I r (.inr ⟨k, by rw [ev, rep_bl rv], here_i st h⟩)
    | [], _, h => exact h.elim
    | d :: _ :: _, _, h => cases d <;> exact h.elim
  case abs =>
    match ds, rr, h with
    | [d], rr, h =>
      obtain ⟨v, ev, rv⟩ := rr.one
      cases d <;> try (exact h.elim)
      case int i => exact call_abs pins s σ H vs us Q I r ⟨i, by rw [ev, rep_int rv], here_i st h⟩
    | [], _, h => exact h.elim
    | d :: _ :: _, _, h => cases d <;> exact h.elim
  case min2 =>
    match ds, rr, h with
    | [d, e], rr, h =>
      obtain ⟨v, w, ev, rv, rw_⟩ := rr.two
      cases d <;> try (exact h.elim)
      case int i =>
        cases e <;> try (exact h.elim)
        case int j => exact call_min2 hc pins s σ H vs us Q I r ⟨i, j, by rw [ev, rep_int rv, rep_int rw_], here_i st h⟩
    | [], _, h => exact h.elim
    | [d], _, h => cases d <;> exact h.elim
    | d :: e :: _ :: _, _, h => cases d <;> cases e <;> exact h.elim
  case max2 =>
    match ds, rr, h with
    | [d, e], rr, h =>
      obtain ⟨v, w, ev, rv, rw_⟩ := rr.two
      cases d <;> try (exact h.elim)
      case int i =>
        cases e <;> try (exact h.elim)
        case int j => exact call_max2 hc pins s σ H vs us Q I r ⟨i, j, by rw [ev, rep_int rv, rep_int rw_], here_i st h⟩
    | [], _, h => exact h.elim
    | [d], _, h => cases d <;> exact h.elim
    | d :: e :: _ :: _, _, h => cases d <;> cases e <;> exact h.elim
  case all =>
    match ds, rr, h with
    | [d], rr, h =>
      obtain ⟨v, ev, rv⟩ := rr.one
      obtain ⟨a, va, h⟩ := one_ans st rv h
      cases a <;> try (exact h.elim)
      case lst xs =>
        obtain ⟨p, ws, e1, e2, e3⟩ := va.lst
        simp only at h
        split at h
        · rename_i bs hbs
          rw [bools_V e3 hbs] at e2
          exact cr_all hc pins s σ H vs us Q I r ⟨p, bs, by rw [ev, e1], .of e2, here_b st h⟩
        · exact h.elim
    | [], _, h => exact h.elim
    | _ :: _ :: _, _, h => exact h.elim
  case any =>
    match ds, rr, h with
    | [d], rr, h =>
      obtain ⟨v, ev, rv⟩ := rr.one
      obtain ⟨a, va, h⟩ := one_ans st rv h
      cases a <;> try (exact h.elim)
      case lst xs =>
        obtain ⟨p, ws, e1, e2, e3⟩ := va.lst
        simp only at h
        split at h
        · rename_i bs hbs
          rw [bools_V e3 hbs] at e2
          exact cr_any hc pins s σ H vs us Q I r ⟨p, bs, by rw [ev, e1], .of e2, here_b st h⟩
        · exact h.elim
    | [], _, h => exact h.elim
    | _ :: _ :: _, _, h => exact h.elim
  case sum =>
    match ds, rr, h with
    | [d], rr, h =>
      obtain ⟨v, ev, rv⟩ := rr.one
      obtain ⟨a, va, h⟩ := one_ans st rv h
      cases a <;> try (exact h.elim)
      case lst xs =>
        obtain ⟨p, ws, e1, e2, e3⟩ := va.lst
        simp only at h
        split at h
        · rename_i bs hbs
          rw [ints_V e3 hbs] at e2
          exact cr_sum hc pins s σ H vs us Q I r ⟨p, bs, by rw [ev, e1], .of e2, here_i st h⟩
        · exact h.elim
    | [], _, h => exact h.elim
    | _ :: _ :: _, _, h => exact h.elim
  case repr =>
    match ds, rr, h with
    | [d], rr, h =>
      obtain ⟨v, ev, rv⟩ := rr.one
      obtain ⟨a, va, h⟩ := one_ans st rv h
      split at h
      · rename_i xs hxs
        obtain ⟨c, h⟩ := need_ans h
        unfold D.rp at c
        simp only [Bool.and_eq_true, decide_eq_true_eq] at c
        obtain ⟨p, ws, e1, _⟩ := va.seq hxs
        rw [ev] at r
        obtain ⟨u, rfl, ru⟩ := vals1 r
        exact repr_ok hu I ru va ⟨p, e1⟩ c.1.1.1 c.1.1.2 hg c.1.2 (by rw [← line_eq]; exact c.2) (here_s st h)
      · exact h.elim
    | [], _, h => exact h.elim
    | _ :: _ :: _, _, h => exact h.elim
end
end VS

/-! VS, part G: expressions: from the interpreter's answer to the layer's judgement. -/
namespace VS
open PySem PySem.Spec L2 PyProof.Rows

/-- a def keeps a promise, wherever it is called with room and no guard -/
structure FnG (P : Program) (w : World) (K : PySem.W.Frag) (mg : Str → Option Value) (base : Heap) (k : Nat) (f : Addr) (fd : FuncData) (ps : List Str) (sp : List V → Hp → VK → Prop) : Prop where
  len : ∀ vs H Q, sp vs H Q → vs.length = ps.length
  run : ∀ (A : Around) (outer : List PySem.Env) (s : Shared) (H : Hp) (args : Args) (us : List Value) (vs : List V) (Q : VK), Room k A → A.guards = some [] →
    Env0 P w K mg base A outer s H → BindsTo s fd args (ps.zip us) → Vals vs us → sp vs H Q →
    codeAny (model P w) A (.call (.ref f) args) (CR CX0 outer P w H s Q E0) s

/-- what a call of f by the interpreter promises -/
def spF (K : PySem.W.Frag) (mg : Str → Option Value) (Φ : CallF) (f : Str) (n : Nat) : List V → Hp → VK → Prop := fun vs H Q => vs.length = n ∧ ∃ φ S ds, StOk K mg H φ S ∧ Repl K mg H φ S vs ds ∧ Ans K mg (Φ f ds S) H φ S Q

/-- a global def that may be called -/
structure CallOk (P : Program) (w : World) (K : PySem.W.Frag) (mg : Str → Option Value) (base : Heap) (k : Nat) (Φ : CallF) (f : Str) : Prop where
  to : ∃ (a : Addr) (fd : FuncData) (ps : List Str), mg f = some (.ref a) ∧ PySem.W.keepIn K (.ref a) = true ∧ Binds K fd ps [] ∧ (∀ ds S, ds.length ≠ ps.length → Φ f ds S = .stuck) ∧ FnG P w K mg base k a fd ps (spF K mg Φ f ps.length)

/-- where one stands -/
structure GX (X : Cx) (k : Nat) (Φ : CallF) (fs bs : List Str) : Prop where
  calm : X.calm = true
  nd : X.N.Nodup
  room : Room k X.A
  guards : X.A.guards = some []
  calls : ∀ f ∈ fs, CallOk X.prog X.w X.K X.mg X.base k Φ f
  blts : ∀ x ∈ bs, X.mg x = none
theorem GX.hu {X : Cx} {k : Nat} {Φ : CallF} {fs bs : List Str} (g : GX X k Φ fs bs) : X.A.units + 100 < cLine := by have := g.room.un; omega

theorem _root_.L2.PE.imp {X : Cx} {e : Expr} {t t' : TE} (h : PE X e t) (i : ∀ σ H Q, t' σ H Q → t σ H Q) : PE X e t' := ⟨fun pins s σ H Q I q => h.run pins s σ H Q I (i σ H Q q)⟩
theorem _root_.L2.PA.imp {X : Cx} {e : List Expr} {t t' : TA} (h : PA X e t) (i : ∀ σ H Q, t' σ H Q → t σ H Q) : PA X e t' := ⟨fun pos pins s σ H Q I q => h.run pos pins s σ H Q I (i σ H Q q)⟩
theorem _root_.L2.PT.imp {X : Cx} {e : Expr} {t t' : TT} (h : PT X e t) (i : ∀ σ H Q, t' σ H Q → t σ H Q) : PT X e t' := ⟨fun pins s σ H Q I q => h.run pins s σ H Q I (i σ H Q q)⟩
theorem _root_.L2.PE.to {X : Cx} {e : Expr} {f g : Env → Cells → R D} (h : PE X e (TEv X.K X.mg f)) (e1 : ∀ ρ S, g ρ S = f ρ S) : PE X e (TEv X.K X.mg g) := by
  have : g = f := by funext ρ S; exact e1 ρ S
  rw [this]; exact h

section
variable {K : PySem.W.Frag} {mg : Str → Option Value} {H : Hp} {φ : Ad} {S : Cells} {σ : L2.St} {ρ : Env}
/-- two in a row -/
theorem tev2 {fa fb : Env → Cells → R D} {g : D → D → Cells → R D} {Q : VK} (h : TEv K mg (fun ρ S => (fa ρ S).bind fun x S => (fb ρ S).bind fun y S => g x y S) σ H Q) :
    TEv K mg fa σ H fun x H1 => TEv K mg fb σ H1 fun y H2 => ∃ φ S a b, StOk K mg H2 φ S ∧ Rep K mg H2 φ S x a ∧ Rep K mg H2 φ S y b ∧ Ans K mg (g a b S) H2 φ S Q := by
  obtain ⟨φ, ρ, S, st, re, a⟩ := h
  refine ⟨φ, ρ, S, st, re, (Ans.step a).mono fun v H1 ⟨φ1, S1, d, st1, r1, k1, a1⟩ => ?_⟩
  refine ⟨φ1, ρ, S1, st1, re.keep k1, (Ans.step a1).mono fun u H2 ⟨φ2, S2, e, st2, r2, k2, a2⟩ => ?_⟩
  exact ⟨φ2, S2, d, e, st2, r1.keep k2, r2, a2⟩
theorem both_ans {x y : V} {a b : D} {f : D → D → R D} {Q : VK} (st : StOk K mg H φ S) (r1 : Rep K mg H φ S x a) (r2 : Rep K mg H φ S y b) (h : Ans K mg (both a b S f) H φ S Q) :
    ∃ a' b', Vw K mg H φ S x a' ∧ Vw K mg H φ S y b' ∧ Ans K mg (f a' b') H φ S Q := by
  unfold both at h
  cases e1 : val S a with
  | none => rw [e1] at h; exact h.elim
  | some a' =>
    cases e2 : val S b with
    | none => rw [e1, e2] at h; exact h.elim
    | some b' => rw [e1, e2] at h; exact ⟨a', b', val_vw st r1 e1, val_vw st r2 e2, h⟩
theorem truth_ans {x : V} {a : D} {f : Bool → R D} {Q : VK} (st : StOk K mg H φ S) (r : Rep K mg H φ S x a) (h : Ans K mg (truthR a S f) H φ S Q) : ∃ t, TruV K x H t ∧ Ans K mg (f t) H φ S Q := by
  unfold truthR at h
  cases e : truth S a with
  | none => rw [e] at h; exact h.elim
  | some t => rw [e] at h; exact ⟨t, tru_V st r e, h⟩
end

section
variable {X : Cx} {k : Nat} {Φ : CallF} {fs bs : List Str} {pos : Pos}
/-! ### names, constants -/
theorem se_var (g : GX X k Φ fs bs) {i : Nat} {x : Str} (hN : X.N[i]? = some x) (hv : Vis X.env.scope x) (hd : (x == ("__debug__" : Str)) = false) (hcd : (x == ("__classdict__" : Str)) = false) : PE X (.Name x pos) (TEv X.K X.mg fun ρ S => look ρ i S) :=
  (pe_var hN hv hd hcd).imp fun σ H Q ⟨φ, ρ, S, st, re, a⟩ => by
    have a : Ans X.K X.mg (look ρ i S) H φ S Q := a
    unfold look at a
    split at a
    · rename_i d hd
      obtain ⟨v, e, r⟩ := re.at_ i d hd
      exact ⟨v, e, a.here st r⟩
    · exact a.elim
theorem se_k {e : Expr} {v : V} {d : D} (h : PE X e (tC v)) (r : ∀ H φ S, Rep X.K X.mg H φ S v d) : PE X e (TEv X.K X.mg fun _ S => .ok d S) :=
  h.imp fun σ H Q ⟨φ, ρ, S, st, re, a⟩ => a.here st (r H φ S)
theorem se_g (g : GX X k Φ fs bs) {x : Str} (hx : x ∈ fs) (hg : Gl X x) (hd : (x == ("__debug__" : Str)) = false) : PE X (.Name x pos) (TEv X.K X.mg fun _ S => .ok (.glo x) S) := by
  obtain ⟨a, fd, ps, hm, _⟩ := (g.calls x hx).to
  exact se_k (pe_glob hg hm (v := .ref a) rfl hd) fun H φ S => .dat (.glo hm)

/-! ### argument lists, displays -/
theorem sa_nil : PA X [] (TAv X.K X.mg fun _ S => .ok [] S) := pa_nil.imp fun σ H Q ⟨φ, ρ, S, st, re, a⟩ => a [] H φ st .nil (Keep.refl _ _ _)
theorem sa_cons {e : Expr} {es : List Expr} {fa : Env → Cells → R D} {fb : Env → Cells → R (List D)} (ha : PE X e (TEv X.K X.mg fa)) (hb : PA X es (TAv X.K X.mg fb))
    (hs : starEach (e :: es) X.env = (false, eval e X.env) :: starEach es X.env) : PA X (e :: es) (TAv X.K X.mg fun ρ S => (fa ρ S).bind fun d S => (fb ρ S).bind fun ds S => .ok (d :: ds) S) :=
  (pa_cons ha hb hs).imp fun σ H Q ⟨φ, ρ, S, st, re, a⟩ => by
    refine ⟨φ, ρ, S, st, re, (Ans.steps a).mono fun v H1 ⟨φ1, S1, d, st1, r1, k1, a1⟩ => ?_⟩
    refine ⟨φ1, ρ, S1, st1, re.keep k1, ?_⟩
    show Anss _ _ (fb ρ S1) H1 φ1 S1 _
    cases e : fb ρ S1 with
    | ok ds S2 =>
      rw [e] at a1
      exact fun vs H2 φ2 st2 r2 k2 => a1 (v :: vs) H2 φ2 st2 (.cons (r1.keep k2) r2) k2
    | exn x S2 => rw [e] at a1; exact a1
    | stuck => rw [e] at a1; exact a1
/-- items made part of a display -/
theorem disp_ans {K : PySem.W.Frag} {mg : Str → Option Value} {H : Hp} {φ : Ad} {S : Cells} {vs : List V} {ds : List D} {g : List D → Cells → R D} {Q : VK} (st : StOk K mg H φ S) (r : Repl K mg H φ S vs ds)
    (h : Ans K mg ((frzs ds S).bind fun ds S => .need (decide (ds.length ≤ line)) (g ds S)) H φ S Q) :
    ∃ S' es, StOk K mg H φ S' ∧ Dats K mg H (Mu φ S') vs es ∧ vs.length ≤ sizeLine ∧ Ans K mg (g es S') H φ S' Q := by
  cases e : frzs ds S with
  | ok es S' =>
    rw [e] at h
    obtain ⟨st', q, k⟩ := frzs_ok st r e
    have h2 : Ans K mg (.need (decide (es.length ≤ line)) (g es S')) H φ S' Q := Ans.later k h
    obtain ⟨c, h3⟩ := need_ans h2
    exact ⟨S', es, st', q, by rw [q.length]; exact sl_line c, h3⟩
  | exn x S' => rw [e] at h; exact h.elim
  | stuck => rw [e] at h; exact h.elim
theorem se_tup {es : List Expr} {x1 : Nat} {f : Env → Cells → R (List D)} (h : PA X es (TAv X.K X.mg f)) :
    PE X (.Tuple es x1 pos) (TEv X.K X.mg fun ρ S => norm S.length ((f ρ S).bind fun ds S => (frzs ds S).bind fun ds S => .need (decide (ds.length ≤ line)) (.ok (.tup ds) S))) :=
  (pe_tup h).imp fun σ H Q hh => by
    obtain ⟨φ, ρ, S, st, re, a⟩ := TEv.norm hh
    refine ⟨φ, ρ, S, st, re, ?_⟩
    have a' := Anss.step a
    revert a'
    show Anss _ _ (f ρ S) H φ S _ → Anss _ _ (f ρ S) H φ S _
    cases f ρ S with
    | ok ds S1 =>
      intro a' vs H1 φ1 st1 r1 k1
      obtain ⟨φ2, S2, ds2, st2, r2, k2, a2⟩ := a' vs H1 φ1 st1 r1 k1
      obtain ⟨S', es', st3, q3, l3, a3⟩ := disp_ans st2 r2 a2
      exact ⟨l3, fun p hp => newT_ans st3 q3 a3 hp⟩
    | exn x S1 => exact fun a' => a'
    | stuck => exact fun a' => a'
theorem se_lst {es : List Expr} {f : Env → Cells → R (List D)} (h : PA X es (TAv X.K X.mg f)) :
    PE X (.List es pos) (TEv X.K X.mg fun ρ S => norm S.length ((f ρ S).bind fun ds S => (frzs ds S).bind fun ds S => .need (decide (ds.length ≤ line)) (newL ds S))) :=
  (pe_lst h).imp fun σ H Q hh => by
    obtain ⟨φ, ρ, S, st, re, a⟩ := TEv.norm hh
    refine ⟨φ, ρ, S, st, re, ?_⟩
    have a' := Anss.step a
    revert a'
    show Anss _ _ (f ρ S) H φ S _ → Anss _ _ (f ρ S) H φ S _
    cases f ρ S with
    | ok ds S1 =>
      intro a' vs H1 φ1 st1 r1 k1
      obtain ⟨φ2, S2, ds2, st2, r2, k2, a2⟩ := a' vs H1 φ1 st1 r1 k1
      obtain ⟨S', es', st3, q3, l3, a3⟩ := disp_ans st2 r2 a2
      exact ⟨l3, fun p hp => newL_ans st3 q3 a3 hp⟩
    | exn x S1 => exact fun a' => a'
    | stuck => exact fun a' => a'

/-! ### operators -/
theorem se_bin {a b : Expr} {fa fb : Env → Cells → R D} (op : Bop) (ha : PE X a (TEv X.K X.mg fa)) (hb : PE X b (TEv X.K X.mg fb)) :
    PE X (.BinOp a (opOf op) b pos) (TEv X.K X.mg fun ρ S => norm S.length ((fa ρ S).bind fun x S => (fb ρ S).bind fun y S => both x y S fun x y => binV op x y S)) :=
  (pe_op (or_bin op) ha hb).imp fun σ H Q hh => by
    obtain ⟨φ, ρ, S, st, re, q⟩ := tev2 (TEv.norm hh)
    refine ⟨φ, ρ, S, st, re, q.mono fun x H1 ⟨φ1, ρ1, S1, st1, re1, q1⟩ => ⟨φ1, ρ1, S1, st1, re1, q1.mono fun y H2 ⟨φ2, S2, a, b, st2, r1, r2, q2⟩ => ?_⟩⟩
    obtain ⟨a', b', va, vb, q3⟩ := both_ans st2 r1 r2 q2
    exact ⟨φ2, S2, a', b', st2, va, vb, q3⟩
theorem se_cmp (g : GX X k Φ fs bs) {a b : Expr} {fa fb : Env → Cells → R D} (op : Cop) (ha : PE X a (TEv X.K X.mg fa)) (hb : PE X b (TEv X.K X.mg fb)) (hm : behindInMarks (cOf op) b = false) :
    PE X (.Compare a [cOf op] [b] pos) (TEv X.K X.mg fun ρ S => norm S.length ((fa ρ S).bind fun x S => (fb ρ S).bind fun y S => both x y S fun x y => bR (cmpV op x y) S)) :=
  (pe_cmpR (or_cmp g.hu op) ha hb hm).imp fun σ H Q hh => by
    obtain ⟨φ, ρ, S, st, re, q⟩ := tev2 (TEv.norm hh)
    refine ⟨φ, ρ, S, st, re, q.mono fun x H1 ⟨φ1, ρ1, S1, st1, re1, q1⟩ => ⟨φ1, ρ1, S1, st1, re1, q1.mono fun y H2 ⟨φ2, S2, a, b, st2, r1, r2, q2⟩ => ?_⟩⟩
    obtain ⟨a', b', va, vb, q3⟩ := both_ans st2 r1 r2 q2
    exact ⟨φ2, S2, a', b', st2, va, vb, q3⟩
theorem se_ix {a b : Expr} {fa fb : Env → Cells → R D} (ha : PE X a (TEv X.K X.mg fa)) (hb : PE X b (TEv X.K X.mg fb)) (hs : PlainIx b) :
    PE X (.Subscript a b pos) (TEv X.K X.mg fun ρ S => norm S.length ((fa ρ S).bind fun x S => (fb ρ S).bind fun y S => both x y S fun x y => ixV x y S)) :=
  (pe_ix or_ix ha hb hs).imp fun σ H Q hh => by
    obtain ⟨φ, ρ, S, st, re, q⟩ := tev2 (TEv.norm hh)
    refine ⟨φ, ρ, S, st, re, q.mono fun x H1 ⟨φ1, ρ1, S1, st1, re1, q1⟩ => ⟨φ1, ρ1, S1, st1, re1, q1.mono fun y H2 ⟨φ2, S2, a, b, st2, r1, r2, q2⟩ => ?_⟩⟩
    obtain ⟨a', b', va, vb, q3⟩ := both_ans st2 r1 r2 q2
    exact ⟨φ2, S2, a', b', st2, va, vb, q3⟩
theorem se_neg {a : Expr} {fa : Env → Cells → R D} (ha : PE X a (TEv X.K X.mg fa)) : PE X (.UnaryOp .USub a pos) (TEv X.K X.mg fun ρ S => (fa ρ S).bind fun x S => match x with | .int i => .ok (.int (-i)) S | _ => .stuck) :=
  (pe_un un_neg ha).imp fun σ H Q ⟨φ, ρ, S, st, re, q⟩ => by
    refine ⟨φ, ρ, S, st, re, (Ans.step q).mono fun x H1 ⟨φ1, S1, d, st1, r1, k1, q1⟩ => ?_⟩
    cases d <;> try (exact q1.elim)
    case int i => exact ⟨i, rep_int r1, here_i st1 q1⟩

/-! ### and, or, not, if -/
theorem drop_keep {K : PySem.W.Frag} {mg : Str → Option Value} {H H' : Hp} {φ φ' : Ad} {S S' : Cells} (st : StOk K mg H φ S) (st' : StOk K mg H' φ' S') (k : Keep H φ S H' φ' S') : StOk K mg H' (φ'.take S.length) (S'.take S.length) ∧ Keep H φ S H' (φ'.take S.length) (S'.take S.length) ∧ (∀ a, Mu (φ'.take S.length) (S'.take S.length) a → Mu φ' S' a) :=
  ⟨st'.take _, k.take (by rw [st.len]), fun _ m => m.take⟩
theorem se_and {a b : Expr} {rest : List Expr} {p : Pos} {fa fb : Env → Cells → R D} (ha : PE X a (TEv X.K X.mg fa)) (hb : PE X (.BoolOp .And (b :: rest) p) (TEv X.K X.mg fb)) :
    PE X (.BoolOp .And (a :: b :: rest) p) (TEv X.K X.mg fun ρ S => (fa ρ S).bind fun x S1 => truthR x S1 fun t => if t then fb ρ (S1.take S.length) else norm S.length (.ok x S1)) :=
  (pe_andT ha hb).imp fun σ H Q ⟨φ, ρ, S, st, re, q⟩ => by
    refine ⟨φ, ρ, S, st, re, ?_⟩
    dsimp only at q
    cases e : fa ρ S with
    | exn x S1 => rw [e] at q; exact q
    | stuck => rw [e] at q; exact q
    | ok d S1 =>
      rw [e] at q
      simp only [R.bind] at q
      unfold truthR at q
      cases et : truth S1 d with
      | none => rw [et] at q; exact q.elim
      | some t =>
        rw [et] at q
        simp only at q
        intro x H1 φ1 st1 r1 k1
        refine ⟨t, tru_V st1 r1 et, ?_⟩
        cases t with
        | true =>
          rw [if_pos rfl] at q ⊢
          obtain ⟨s2, k2, m2⟩ := drop_keep st st1 k1
          exact ⟨_, ρ, _, s2, re.keep k2, Ans.later k2 q⟩
        | false =>
          rw [if_neg Bool.false_ne_true] at q ⊢
          exact Ans.norm st q x H1 φ1 st1 r1 k1
theorem se_or {a b : Expr} {rest : List Expr} {p : Pos} {fa fb : Env → Cells → R D} (ha : PE X a (TEv X.K X.mg fa)) (hb : PE X (.BoolOp .Or (b :: rest) p) (TEv X.K X.mg fb)) :
    PE X (.BoolOp .Or (a :: b :: rest) p) (TEv X.K X.mg fun ρ S => (fa ρ S).bind fun x S1 => truthR x S1 fun t => if t then norm S.length (.ok x S1) else fb ρ (S1.take S.length)) :=
  (pe_orT ha hb).imp fun σ H Q ⟨φ, ρ, S, st, re, q⟩ => by
    refine ⟨φ, ρ, S, st, re, ?_⟩
    dsimp only at q
    cases e : fa ρ S with
    | exn x S1 => rw [e] at q; exact q
    | stuck => rw [e] at q; exact q
    | ok d S1 =>
      rw [e] at q
      simp only [R.bind] at q
      unfold truthR at q
      cases et : truth S1 d with
      | none => rw [et] at q; exact q.elim
      | some t =>
        rw [et] at q
        simp only at q
        intro x H1 φ1 st1 r1 k1
        refine ⟨t, tru_V st1 r1 et, ?_⟩
        cases t with
        | false =>
          rw [if_neg Bool.false_ne_true] at q ⊢
          obtain ⟨s2, k2, m2⟩ := drop_keep st st1 k1
          exact ⟨_, ρ, _, s2, re.keep k2, Ans.later k2 q⟩
        | true =>
          rw [if_pos rfl] at q ⊢
          exact Ans.norm st q x H1 φ1 st1 r1 k1
theorem se_not {a : Expr} {fa : Env → Cells → R D} (ha : PE X a (TEv X.K X.mg fa)) : PE X (.UnaryOp .Not a pos) (TEv X.K X.mg fun ρ S => norm S.length ((fa ρ S).bind fun x S => truthR x S fun t => .ok (.bl (!t)) S)) :=
  (pe_notT ha).imp fun σ H Q hh => by
    obtain ⟨φ, ρ, S, st, re, q⟩ := TEv.norm hh
    refine ⟨φ, ρ, S, st, re, (Ans.step q).mono fun x H1 ⟨φ1, S1, d, st1, r1, k1, q1⟩ => ?_⟩
    obtain ⟨t, tv, q2⟩ := truth_ans st1 r1 q1
    exact ⟨t, tv, here_b st1 q2⟩

/-- a test, by its value's truth -/
def TTv (K : PySem.W.Frag) (mg : Str → Option Value) (f : Env → Cells → R D) : TT := fun σ H Q => ∃ φ ρ S, StOk K mg H φ S ∧ REnv K mg H φ S σ ρ ∧ Ans K mg (norm S.length ((f ρ S).bind fun x S => truthR x S fun t => .ok (.bl t) S)) H φ S (fun v H' => ∃ b, v = .bl b ∧ Q b H')
theorem ttv_step {K : PySem.W.Frag} {mg : Str → Option Value} {σ : L2.St} {H : Hp} {f : Env → Cells → R D} {Q : Bool → Hp → Prop} (h : TTv K mg f σ H Q) : TEv K mg f σ H fun x H1 => ∃ t, TruV K x H1 t ∧ Q t H1 := by
  obtain ⟨φ, ρ, S, st, re, q⟩ := h
  refine ⟨φ, ρ, S, st, re, (Ans.step (Ans.norm st q)).mono fun x H1 ⟨φ1, S1, d, st1, r1, k1, q1⟩ => ?_⟩
  obtain ⟨t, tv, q2⟩ := truth_ans st1 r1 q1
  obtain ⟨b, e, q3⟩ := here_b st1 q2
  cases e
  exact ⟨t, tv, q3⟩
theorem st_truth {a : Expr} {fa : Env → Cells → R D} (ha : PE X a (TEv X.K X.mg fa)) (he : ∀ whole, isTrue a X.env whole = (do let v ← whole; standAt a.pos; holding [v] (truthy v))) : PT X a (TTv X.K X.mg fa) :=
  (pt_truth ha he).imp fun σ H Q h => by
    obtain ⟨φ, ρ, S, st, re, q⟩ := ttv_step h
    exact ⟨φ, ρ, S, st, re, q⟩
theorem se_ite {c a b : Expr} {ft fa fb : Env → Cells → R D} (hc : PT X c (TTv X.K X.mg ft)) (ha : PE X a (TEv X.K X.mg fa)) (hb : PE X b (TEv X.K X.mg fb)) :
    PE X (.IfExp c a b pos) (TEv X.K X.mg fun ρ S => (norm S.length ((ft ρ S).bind fun x S => truthR x S fun t => .ok (.bl t) S)).bind fun x S => match x with
      | .bl true => fa ρ S
      | .bl false => fb ρ S
      | _ => .stuck) :=
  (pe_ifExp hc ha hb).imp fun σ H Q ⟨φ, ρ, S, st, re, q⟩ => by
    refine ⟨φ, ρ, S, st, re, (Ans.step q).mono fun x H1 ⟨φ1, S1, d, st1, r1, k1, q1⟩ => ?_⟩
    cases d <;> try (exact q1.elim)
    case bl t =>
      refine ⟨t, rep_bl r1, ?_⟩
      cases t with
      | true => exact ⟨φ1, ρ, S1, st1, re.keep k1, q1⟩
      | false => exact ⟨φ1, ρ, S1, st1, re.keep k1, q1⟩

theorem bool_ans {K : PySem.W.Frag} {mg : Str → Option Value} {H : Hp} {φ : Ad} {S : Cells} {o : Option Bool} {Q : Bool → Hp → Prop} (h : Ans K mg (bR o S) H φ S fun x H1 => ∃ t, TruV K x H1 t ∧ Q t H1) :
    Ans K mg (bR o S) H φ S fun x H1 => ∃ t, x = .bl t ∧ Q t H1 := by
  cases o with
  | none => exact h
  | some b =>
    intro v H' φ' st r k
    obtain ⟨t, tv, q⟩ := h v H' φ' st r k
    have e := rep_bl r
    subst e
    have e2 : t = b := tv
    subst e2
    exact ⟨_, rfl, q⟩
theorem st_cmp (g : GX X k Φ fs bs) {a b : Expr} {fa fb : Env → Cells → R D} (op : Cop) (ha : PE X a (TEv X.K X.mg fa)) (hb : PE X b (TEv X.K X.mg fb)) (hm : behindInMarks (cOf op) b = false) :
    PT X (.Compare a [cOf op] [b] pos) (TTv X.K X.mg fun ρ S => norm S.length ((fa ρ S).bind fun x S => (fb ρ S).bind fun y S => both x y S fun x y => bR (cmpV op x y) S)) :=
  (pt_cmpR (or_cmp g.hu op) ha hb hm).imp fun σ H Q h => by
    obtain ⟨φ, ρ, S, st, re, q⟩ := tev2 (TEv.norm (ttv_step h))
    refine ⟨φ, ρ, S, st, re, q.mono fun x H1 ⟨φ1, ρ1, S1, st1, re1, q1⟩ => ⟨φ1, ρ1, S1, st1, re1, q1.mono fun y H2 ⟨φ2, S2, a, b, st2, r1, r2, q2⟩ => ?_⟩⟩
    obtain ⟨a', b', va, vb, q3⟩ := both_ans st2 r1 r2 q2
    exact ⟨φ2, S2, a', b', st2, va, vb, bool_ans q3⟩
/-- a test evaluated -/
theorem ttv_of {K : PySem.W.Frag} {mg : Str → Option Value} {σ : L2.St} {H : Hp} {f : Env → Cells → R D} {Q : Bool → Hp → Prop} (h : TEv K mg f σ H fun x H1 => ∃ t, TruV K x H1 t ∧ Q t H1) : True := trivial
theorem st_not {a : Expr} {fa : Env → Cells → R D} (ha : PT X a (TTv X.K X.mg fa)) : PT X (.UnaryOp .Not a pos) (TTv X.K X.mg fun ρ S => norm S.length ((fa ρ S).bind fun x S => truthR x S fun t => .ok (.bl (!t)) S)) :=
  (pt_not ha).imp fun σ H Q ⟨φ, ρ, S, st, re, q⟩ => by
    refine ⟨φ, ρ, S, st, re, ?_⟩
    have key : ∀ (r : R D), Ans X.K X.mg (norm S.length ((norm S.length (r.bind fun x S => truthR x S fun t => .ok (.bl (!t)) S)).bind fun x S => truthR x S fun t => .ok (.bl t) S)) H φ S (fun v H' => ∃ b, v = .bl b ∧ Q b H') →
        Ans X.K X.mg (norm S.length (r.bind fun x S => truthR x S fun t => .ok (.bl t) S)) H φ S (fun v H' => ∃ b, v = .bl b ∧ Q (!b) H') := by
      intro r h
      cases r with
      | exn x S1 => exact h
      | stuck => exact h
      | ok d S1 =>
        simp only [R.bind] at h ⊢
        unfold truthR at h ⊢
        cases e : truth S1 d with
        | none => rw [e] at h; exact h
        | some t =>
          rw [e] at h
          simp only at h ⊢
          have e1 : norm S.length (.ok (.bl (!t)) S1) = .ok (.bl (!t)) (S1.take S.length) := rfl
          rw [e1] at h
          simp only [R.bind] at h
          have e2 : truth (S1.take S.length) (.bl (!t)) = some (!t) := rfl
          rw [e2] at h
          simp only at h
          have e3 : norm S.length (.ok (.bl (!t)) (S1.take S.length)) = .ok (.bl (!t)) (S1.take S.length) := by
            show R.ok (D.bl (!t)) ((S1.take S.length).take S.length) = _
            rw [List.take_take, Nat.min_self]
          rw [e3] at h
          have e4 : norm S.length (.ok (.bl t) S1) = .ok (.bl t) (S1.take S.length) := rfl
          rw [e4]
          intro v H' φ' st' r' k'
          have ev := rep_bl r'
          subst ev
          obtain ⟨b, eb, q'⟩ := h (.bl (!t)) H' φ' st' (.dat (.bl _)) k'
          cases eb
          exact ⟨t, rfl, q'⟩
    exact key (fa ρ S) q
theorem sw_one {a : Expr} {op : BoolOp} {fa : Env → Cells → R D} (ha : PT X a (TTv X.K X.mg fa)) : PW X (.BoolOp op [a] pos) (TTv X.K X.mg fa) := by
  cases op with
  | And => exact pw_and1 ha
  | Or => exact pw_or1 ha
/-- norm leaves the truth -/
theorem truth_val {S S' : Cells} {d e : D} (h : val S' e = val S d) : truth S' e = truth S d := by
  unfold truth
  rw [h]
theorem truth_norm {n : Nat} {d e : D} {S S' : Cells} (hn : n ≤ S.length) (h : norm n (.ok d S) = .ok e S') : truth S' e = truth S d := by
  refine truth_val ?_
  cases d with
  | ref m =>
    unfold norm at h
    simp only at h
    split at h
    · rename_i hm
      cases h
      show ((S.take n)[m]?).map (·.c) = (S[m]?).map (·.c)
      rw [List.getElem?_take, if_pos hm]
    · split at h
      · rename_i c hc
        cases h
        show ((S.take n ++ [c])[n]?).map (·.c) = (S[m]?).map (·.c)
        have : (S.take n ++ [c])[n]? = some c := by
          have l : (S.take n).length = n := by rw [List.length_take]; omega
          rw [List.getElem?_append_right (by omega), l]; simp
        rw [this, hc]
      · cases h
  | _ => cases h; rfl
theorem keep_len {H H' : Hp} {K : PySem.W.Frag} {mg : Str → Option Value} {φ φ' : Ad} {S S' : Cells} (st : StOk K mg H φ S) (st' : StOk K mg H' φ' S') (k : Keep H φ S H' φ' S') : S.length ≤ S'.length := by
  rw [← st.len, ← st'.len]
  by_cases h : φ.cs.length = 0
  · omega
  · have e : φ.cs[φ.cs.length - 1]? = some φ.cs[φ.cs.length - 1] := by simp
    have := k.pre _ _ e
    have := (List.getElem?_eq_some_iff.mp this).1
    omega
theorem take_len {H H' : Hp} {K : PySem.W.Frag} {mg : Str → Option Value} {φ φ' : Ad} {S S1 : Cells} (st : StOk K mg H φ S) (st' : StOk K mg H' φ' (S1.take S.length)) (k : Keep H φ S H' φ' (S1.take S.length)) : (S1.take S.length).length = S.length ∧ S.length ≤ S1.length := by
  have := keep_len st st' k
  rw [List.length_take] at *
  omega
theorem tst (n : Nat) (d : D) (S1 : Cells) : norm n ((R.ok d S1).bind fun x S => truthR x S fun t => .ok (.bl t) S) = match truth S1 d with | some t => .ok (.bl t) (S1.take n) | none => .stuck := by
  simp only [R.bind]
  unfold truthR
  cases truth S1 d <;> rfl
/-- the test of a, then what hangs on it -/
theorem sw_and {a b : Expr} {rest : List Expr} {p : Pos} {fa fb : Env → Cells → R D} (ha : PT X a (TTv X.K X.mg fa)) (hb : PW X (.BoolOp .And (b :: rest) p) (TTv X.K X.mg fb)) :
    PW X (.BoolOp .And (a :: b :: rest) p) (TTv X.K X.mg fun ρ S => (fa ρ S).bind fun x S1 => truthR x S1 fun t => if t then fb ρ (S1.take S.length) else norm S.length (.ok x S1)) := by
  have h := pw_and ha hb
  refine ⟨fun wh pins s σ H Q I hq => h.run wh pins s σ H Q I ?_⟩
  obtain ⟨φ, ρ, S, st, re, q⟩ := hq
  refine ⟨φ, ρ, S, st, re, ?_⟩
  dsimp only at q
  cases e : fa ρ S with
  | exn x S1 => rw [e] at q; exact q
  | stuck => rw [e] at q; exact q
  | ok d S1 =>
    rw [e] at q
    rw [tst]
    simp only [R.bind] at q
    unfold truthR at q
    cases et : truth S1 d with
    | none => rw [et] at q; exact q
    | some t =>
      rw [et] at q
      simp only at q ⊢
      intro v H' φ' st' r' k'
      have ev := rep_bl r'
      subst ev
      refine ⟨t, rfl, ?_⟩
      obtain ⟨l1, l2⟩ := take_len st st' k'
      cases t with
      | true =>
        rw [if_pos rfl] at q ⊢
        refine ⟨φ', ρ, S1.take S.length, st', re.keep k', ?_⟩
        rw [l1]
        exact Ans.later k' q
      | false =>
        rw [if_neg Bool.false_ne_true] at q ⊢
        cases en : norm S.length (.ok d S1) with
        | exn x S2 => rw [en] at q; exact q.elim
        | stuck => rw [en] at q; exact q.elim
        | ok d2 S2 =>
          rw [en] at q
          simp only at q
          have tn := truth_norm l2 en
          rw [et] at tn
          rw [tn] at q
          simp only at q
          have es : S2.take S.length = S1.take S.length := by
            unfold norm at en
            cases d <;> first
              | (cases en; rw [List.take_take, Nat.min_self])
              | (simp only at en
                 split at en
                 · cases en; rw [List.take_take, Nat.min_self]
                 · split at en
                   · cases en
                     rw [List.take_append_of_le_length (by omega), List.take_take, Nat.min_self]
                   · cases en)
          have q' : Ans X.K X.mg (.ok (.bl false) (S2.take S.length)) H φ S (fun v H' => ∃ b, v = .bl b ∧ Q b H') := q
          rw [es] at q'
          obtain ⟨b, eb, q3⟩ := q' _ H' φ' st' (.dat (.bl false)) k'
          cases eb
          exact q3
theorem sw_or {a b : Expr} {rest : List Expr} {p : Pos} {fa fb : Env → Cells → R D} (ha : PT X a (TTv X.K X.mg fa)) (hb : PW X (.BoolOp .Or (b :: rest) p) (TTv X.K X.mg fb)) :
    PW X (.BoolOp .Or (a :: b :: rest) p) (TTv X.K X.mg fun ρ S => (fa ρ S).bind fun x S1 => truthR x S1 fun t => if t then norm S.length (.ok x S1) else fb ρ (S1.take S.length)) := by
  have h := pw_or ha hb
  refine ⟨fun wh pins s σ H Q I hq => h.run wh pins s σ H Q I ?_⟩
  obtain ⟨φ, ρ, S, st, re, q⟩ := hq
  refine ⟨φ, ρ, S, st, re, ?_⟩
  dsimp only at q
  cases e : fa ρ S with
  | exn x S1 => rw [e] at q; exact q
  | stuck => rw [e] at q; exact q
  | ok d S1 =>
    rw [e] at q
    rw [tst]
    simp only [R.bind] at q
    unfold truthR at q
    cases et : truth S1 d with
    | none => rw [et] at q; exact q
    | some t =>
      rw [et] at q
      simp only at q ⊢
      intro v H' φ' st' r' k'
      have ev := rep_bl r'
      subst ev
      refine ⟨t, rfl, ?_⟩
      obtain ⟨l1, l2⟩ := take_len st st' k'
      cases t with
      | false =>
        rw [if_neg Bool.false_ne_true] at q ⊢
        refine ⟨φ', ρ, S1.take S.length, st', re.keep k', ?_⟩
        rw [l1]
        exact Ans.later k' q
      | true =>
        rw [if_pos rfl] at q ⊢
        cases en : norm S.length (.ok d S1) with
        | exn x S2 => rw [en] at q; exact q.elim
        | stuck => rw [en] at q; exact q.elim
        | ok d2 S2 =>
          rw [en] at q
          simp only at q
          have tn := truth_norm l2 en
          rw [et] at tn
          rw [tn] at q
          simp only at q
          have es : S2.take S.length = S1.take S.length := by
            unfold norm at en
            cases d <;> first
              | (cases en; rw [List.take_take, Nat.min_self])
              | (simp only at en
                 split at en
                 · cases en; rw [List.take_take, Nat.min_self]
                 · split at en
                   · cases en
                     rw [List.take_append_of_le_length (by omega), List.take_take, Nat.min_self]
                   · cases en)
          have q' : Ans X.K X.mg (.ok (.bl true) (S2.take S.length)) H φ S (fun v H' => ∃ b, v = .bl b ∧ Q b H') := q
          rw [es] at q'
          obtain ⟨b, eb, q3⟩ := q' _ H' φ' st' (.dat (.bl true)) k'
          cases eb
          exact q3
end
end VS

/-! VS, part H: calls, slices, isinstance, built-ins, methods. -/
namespace VS
open PySem PySem.Spec L2 PyProof.Rows

section
variable {K : PySem.W.Frag} {mg : Str → Option Value} {H : Hp} {φ : Ad} {S : Cells}
/-- a cell's content changed -/
theorem cell_set {m : Nat} {a : Addr} {ds es : List D} {vs : List V} (st : StOk K mg H φ S) (ha : φ.cs[m]? = some a) (hc : S[m]? = some ⟨.mu, .lst ds⟩) (r : Dats K mg H (Mu φ S) vs es) :
    StOk K mg (upd H a (.lst vs)) φ (S.set m ⟨.mu, .lst es⟩) ∧ Keep H φ S (upd H a (.lst vs)) φ (S.set m ⟨.mu, .lst es⟩) ∧ Stay H (Mu φ S) (upd H a (.lst vs)) (Mu φ (S.set m ⟨.mu, .lst es⟩)) := by
  have hm : m < S.length := (List.getElem?_eq_some_iff.mp hc).1
  have wa : Wr φ S a := ⟨m, _, ha, hc, rfl⟩
  have pick : ∀ {i : Nat} {c : Cell}, (S.set m ⟨.mu, .lst es⟩)[i]? = some c → (i = m ∧ c = ⟨.mu, .lst es⟩) ∨ (i ≠ m ∧ S[i]? = some c) := by
    intro i c h
    by_cases hi : m = i
    · subst hi
      rw [List.getElem?_set_self hm] at h
      cases h
      exact .inl ⟨rfl, rfl⟩
    · rw [List.getElem?_set_ne hi] at h
      exact .inr ⟨Ne.symm hi, h⟩
  have mu : ∀ b, Mu φ (S.set m ⟨.mu, .lst es⟩) b → Mu φ S b := fun b z => by
    rcases z with ⟨i, c, h1, h2, h3⟩ | z
    · rcases pick h2 with ⟨rfl, _⟩ | ⟨_, q⟩
      · exact .inl ⟨i, _, h1, hc, fun z => nomatch z⟩
      · exact .inl ⟨i, c, h1, q, h3⟩
    · exact .inr z
  have wr : ∀ b, Wr φ (S.set m ⟨.mu, .lst es⟩) b → Wr φ S b := fun b ⟨i, c, h1, h2, h3⟩ => by
    rcases pick h2 with ⟨rfl, _⟩ | ⟨_, q⟩
    · exact ⟨i, _, h1, hc, rfl⟩
    · exact ⟨i, c, h1, q, h3⟩
  have fr : ∀ b o, H b = some o → ¬ Wr φ S b → upd H a (.lst vs) b = some o := fun b o e n => by
    rw [upd_ne (fun z => n (by rw [z]; exact wa))]; exact e
  have sy : Stay H (Mu φ S) (upd H a (.lst vs)) (Mu φ (S.set m ⟨.mu, .lst es⟩)) := ⟨fun b o e n => fr b o e fun z => n z.mu, fun b _ z => mu b z⟩
  have th : ∀ b, H b ≠ none → upd H a (.lst vs) b ≠ none := fun b e => by
    by_cases z : b = a
    · subst z; rw [upd_same]; exact fun q => nomatch q
    · rw [upd_ne z]; exact e
  refine ⟨⟨by simp [st.len], st.nd, fun b hb => ⟨(st.ex b hb).1, th b (st.ex b hb).2⟩, fun i b c h1 h2 => ?_⟩, ⟨fun _ _ h => h, rfl, fun b _ z => mu b z, fun b _ z => wr b z, fr, th⟩, sy⟩
  · rcases pick h2 with ⟨rfl, rfl⟩ | ⟨hi, q⟩
    · rw [ha] at h1; cases h1
      exact ⟨es, vs, rfl, upd_same, r.stay sy⟩
    · obtain ⟨ds', vs', e1, e2, e3⟩ := st.at_ i b c h1 q
      refine ⟨ds', vs', e1, ?_, e3.stay sy⟩
      rw [upd_ne (fun z => hi (nd_get st.nd (by rw [← z]; exact h1) ha))]
      exact e2
/-- grow, opened -/
theorem grow_ans {d : D} {x : V} {f : List D → R D} {g : List D → List D} {Q : VK} (st : StOk K mg H φ S) (r : Rep K mg H φ S x d) (h : Ans K mg (grow d S f g) H φ S Q) :
    ∃ m a ds vs e, d = .ref m ∧ x = .ref a ∧ φ.cs[m]? = some a ∧ S[m]? = some ⟨.mu, .lst ds⟩ ∧ H a = some (.lst vs) ∧ Dats K mg H (Mu φ S) vs ds ∧ (∃ S', f ds = .ok e S') ∧
      Ans K mg (.ok e (S.set m ⟨.mu, .lst (g ds)⟩)) H φ S Q := by
  unfold grow at h
  cases d <;> try (exact h.elim)
  case ref m =>
    cases r with
    | dat z => cases z
    | @ref a _ z =>
      dsimp only at h
      split at h
      · rename_i xs hc
        cases e : f xs with
        | ok d S' =>
          rw [e] at h
          obtain ⟨ds, vs, e1, e2, e3⟩ := st.at_ m a _ z hc
          cases e1
          exact ⟨m, a, xs, vs, d, rfl, rfl, z, hc, e2, e3, ⟨S', e⟩, h⟩
        | exn y S' => rw [e] at h; exact h.elim
        | stuck => rw [e] at h; exact h.elim
      · exact h.elim
end

section
variable {X : Cx} {k : Nat} {Φ : CallF} {fs bs : List Str} {pos : Pos}
theorem anss_id {K : PySem.W.Frag} {mg : Str → Option Value} {H : Hp} {φ : Ad} {S : Cells} {r : R (List D)} {g : List D → Cells → R D} {Q : VK} {Q' : List V → Hp → Prop} (h : Ans K mg (r.bind g) H φ S Q)
    (i : ∀ vs H1 φ1 S1 ds, StOk K mg H1 φ1 S1 → Repl K mg H1 φ1 S1 vs ds → Keep H φ S H1 φ1 S1 → Ans K mg (g ds S1) H1 φ1 S1 Q → Q' vs H1) : Anss K mg r H φ S Q' := by
  have a := Anss.step h
  cases r with
  | ok ds S1 =>
    intro vs H1 φ1 st r k
    obtain ⟨φ2, S2, ds2, st2, r2, k2, a2⟩ := a vs H1 φ1 st r k
    exact i vs H1 φ2 S2 ds2 st2 r2 k2 a2
  | exn x S1 => exact a
  | stuck => exact a

/-- the def runs -/
theorem run_g {f : Addr} {fd : FuncData} {ps : List Str} {sp : List V → Hp → VK → Prop} {pins : List (Addr × Obj)} {σ : L2.St} {H : Hp} {s : Shared} {Q : VK} {us : List Value} {vs : List V} (g : GX X k Φ fs bs) (F : FnG X.prog X.w X.K X.mg X.base k f fd ps sp)
    (b : Binds X.K fd ps []) (I : Inv X pins σ H s) (r : Vals vs us) (h : sp vs H Q) : wpAny (model X.prog X.w) X.A (call (.ref f) us) (EP X pins σ Q) X.xe s := by
  have el : us.length = ps.length := by rw [← r.length, F.len vs H Q h]
  have bb := b s us I.kIn (by rw [List.append_nil]; exact el)
  rw [List.append_nil] at bb
  refine wpAny_call (codeAny_mono (F.run X.A X.stack s H ⟨us, []⟩ us vs Q g.room g.guards I.env0 bb r h) fun res s' hq => ?_)
  match res, hq with
  | .error e, hq => exact (False.elim hq)
  | .ok (.ret u), hq => exact I.after hq
  | .ok .next, hq => exact False.elim hq
  | .ok .brk, hq => exact False.elim hq
  | .ok .cont, hq => exact False.elim hq
/-- f(e, ..) -/
theorem se_call (g : GX X k Φ fs bs) {x : Str} {p : Pos} {e : Expr} {es : List Expr} {fa : Env → Cells → R (List D)} (hx : x ∈ fs) (hg : Gl X x) (hd : (x == ("__debug__" : Str)) = false) (ha : PA X (e :: es) (TAv X.K X.mg fa))
    (he : starEach (e :: es) X.env = (false, eval e X.env) :: starEach es X.env) (hpl : (backTo pos (starEach es X.env)).any (·.1) = false) :
    PE X (.Call (.Name x p) (e :: es) [] pos) (TEv X.K X.mg fun ρ S => norm S.length ((fa ρ S).bind fun ds S => Φ x ds S)) := by
  obtain ⟨a, fd, ps, hm, hk, hb, har, F⟩ := (g.calls x hx).to
  refine ⟨fun pins s σ H Q I h => ?_⟩
  obtain ⟨φ, ρ, S, st, re, q⟩ := TEv.norm h
  refine wpAny_Call_Name_kw (ld_glob I hg hm ?_ hd)
  refine PySem.W.callWith_K (h₀ := X.base) I.ok.mod.kin hk (thn (ha.run pos pins s σ H (fun vs H1 => ∃ φ1 S1 ds, StOk X.K X.mg H1 φ1 S1 ∧ Repl X.K X.mg H1 φ1 S1 vs ds ∧ Ans X.K X.mg (Φ x ds S1) H1 φ1 S1 Q) I
    ⟨φ, ρ, S, st, re, anss_id q fun vs H1 φ1 S1 ds s1 r1 _ a1 => ⟨φ1, S1, ds, s1, r1, a1⟩⟩) fun us s1 ⟨vs, H1, I1, r1, φ1, S1, ds, st1, rr, a1⟩ => ⟨I1.kIn, ?_⟩) he hpl
  by_cases hl : vs.length = ps.length
  · exact run_g g F hb I1 r1 ⟨hl, φ1, S1, ds, st1, rr, a1⟩
  · rw [har ds S1 (by rw [← rr.length]; exact hl)] at a1
    exact a1.elim

theorem se_call0 (g : GX X k Φ fs bs) {x : Str} {p : Pos} (hx : x ∈ fs) (hg : Gl X x) (hd : (x == ("__debug__" : Str)) = false) :
    PE X (.Call (.Name x p) [] [] pos) (TEv X.K X.mg fun ρ S => norm S.length ((R.ok [] S).bind fun ds S => Φ x ds S)) := by
  obtain ⟨a, fd, ps, hm, hk, hb, har, F⟩ := (g.calls x hx).to
  refine ⟨fun pins s σ H Q I h => ?_⟩
  obtain ⟨φ, ρ, S, st, re, q⟩ := TEv.norm h
  have q : Ans X.K X.mg (Φ x [] S) H φ S Q := q
  refine wpAny_Call_Name_kw (ld_glob I hg hm ?_ hd)
  refine PySem.W.callWith_K0 I.kIn hk ?_
  by_cases hl : ps.length = 0
  · exact run_g (us := []) (vs := []) g F hb I .nil ⟨hl.symm, φ, S, [], st, .nil, q⟩
  · rw [har [] S (fun z => hl z.symm)] at q
    exact q.elim
/-- f(e, ..), f a local name that holds a def -/
theorem se_callv (g : GX X k Φ fs bs) {x : Str} {p : Pos} {e : Expr} {es : List Expr} {fv : Env → Cells → R D} {fa : Env → Cells → R (List D)} (hv : PE X (.Name x p) (TEv X.K X.mg fv)) (hin : ∀ ρ S y S', fv ρ S = .ok (.glo y) S' → True)
    (hfs : ∀ y a, X.mg y = some (.ref a) → y ∈ fs ∨ ∀ ds S, Φ y ds S = .stuck) (ha : PA X (e :: es) (TAv X.K X.mg fa))
    (he : starEach (e :: es) X.env = (false, eval e X.env) :: starEach es X.env) (hpl : (backTo pos (starEach es X.env)).any (·.1) = false) :
    PE X (.Call (.Name x p) (e :: es) [] pos) (TEv X.K X.mg fun ρ S => norm S.length ((fv ρ S).bind fun f S => match f with
      | .glo f => (fa ρ S).bind fun ds S => Φ f ds S
      | _ => .stuck)) := by
  refine ⟨fun pins s σ H Q I h => ?_⟩
  obtain ⟨φ, ρ, S, st, re, q⟩ := TEv.norm h
  refine wpAny_Call_Name_kw (thn (hv.run pins s σ H _ I ⟨φ, ρ, S, st, re, Ans.step q⟩) fun u s1 ⟨v, H1, I1, rv, φ1, S1, d, st1, r1, k1, q1⟩ => ?_)
  cases d <;> try (exact q1.elim)
  case glo y =>
    dsimp only at q1
    obtain ⟨a, ev, hm⟩ := (Vw.dat (by cases r1 with | dat z => exact z) : Vw X.K X.mg H1 φ1 S1 v (.glo y)).glo
    subst ev
    cases rv
    rcases hfs y a hm with hy | hy
    · obtain ⟨a', fd, ps, hm', hk, hb, har, F⟩ := (g.calls y hy).to
      rw [hm] at hm'
      cases hm'
      refine PySem.W.callWith_K (h₀ := X.base) I.ok.mod.kin hk (thn (ha.run pos pins s1 σ H1 (fun vs H1 => ∃ φ1 S1 ds, StOk X.K X.mg H1 φ1 S1 ∧ Repl X.K X.mg H1 φ1 S1 vs ds ∧ Ans X.K X.mg (Φ y ds S1) H1 φ1 S1 Q) I1
        ⟨φ1, ρ, S1, st1, re.keep k1, anss_id q1 fun vs H1 φ1 S1 ds s1 r1 _ a1 => ⟨φ1, S1, ds, s1, r1, a1⟩⟩) fun us s1 ⟨vs, H1, I1, r1, φ1, S1, ds, st1, rr, a1⟩ => ⟨I1.kIn, ?_⟩) he hpl
      by_cases hl : vs.length = ps.length
      · exact run_g g F hb I1 r1 ⟨hl, φ1, S1, ds, st1, rr, a1⟩
      · rw [har ds S1 (by rw [← rr.length]; exact hl)] at a1
        exact a1.elim
    · exfalso
      cases e : fa ρ S1 with
      | ok ds S2 => rw [e] at q1; simp only [R.bind] at q1; rw [hy] at q1; exact q1
      | exn z S2 => rw [e] at q1; exact q1
      | stuck => rw [e] at q1; exact q1

/-! ### slices, isinstance -/
/-- a slice's part, as the interpreter has it -/
inductive PartOk (X : Cx) : Option Expr → (Env → Cells → R D) → Prop
  | none : PartOk X none fun _ S => .ok .non S
  | some {e : Expr} {f : Env → Cells → R D} : PE X e (TEv X.K X.mg f) → PartOk X (some e) fun ρ S => (f ρ S).bind intOnly
theorem part_ok {o : Option Expr} {f : Env → Cells → R D} (h : PartOk X o f) :
    ∃ t : TO, PO X o t ∧ ∀ (σ : L2.St) (H : Hp) (φ : Ad) (ρ : Env) (S : Cells) (g : D → Cells → R D) (Q : VK) (Q' : Option Int → Hp → Prop), StOk X.K X.mg H φ S → REnv X.K X.mg H φ S σ ρ → Ans X.K X.mg ((f ρ S).bind g) H φ S Q →
        (∀ o d H1 φ1 S1, optI d = some o → StOk X.K X.mg H1 φ1 S1 → Keep H φ S H1 φ1 S1 → Ans X.K X.mg (g d S1) H1 φ1 S1 Q → Q' o H1) → t σ H Q' := by
  cases h with
  | none => exact ⟨tNoPart, po_none, fun σ H φ ρ S g Q Q' st re q i => i Option.none .non H φ S rfl st (Keep.refl _ _ _) q⟩
  | @some e f0 he =>
    refine ⟨tPart (TEv X.K X.mg f0), po_some he, fun σ H φ ρ S g Q Q' st re q i => ⟨φ, ρ, S, st, re, ?_⟩⟩
    dsimp only at q
    cases ef : f0 ρ S with
    | exn y S1 => rw [ef] at q; exact q
    | stuck => rw [ef] at q; exact q
    | ok d S1 =>
      rw [ef] at q
      intro v H1 φ1 st1 r1 k1
      cases d <;> try (exact q.elim)
      case int n => exact ⟨n, rep_int r1, i (Option.some n) (.int n) H1 φ1 S1 rfl st1 k1 (Ans.later k1 q)⟩
theorem se_sl {a : Expr} {lo hi : Option Expr} {p2 : Pos} {fa fl fh : Env → Cells → R D} (ha : PE X a (TEv X.K X.mg fa)) (hl : PartOk X lo fl) (hh : PartOk X hi fh) :
    PE X (.Subscript a (.Slice lo hi none p2) pos) (TEv X.K X.mg fun ρ S => norm S.length ((fa ρ S).bind fun x S => (fl ρ S).bind fun l S => (fh ρ S).bind fun h S => one x S fun x => slV x l h S)) := by
  obtain ⟨tl, pl, il⟩ := part_ok hl
  obtain ⟨th, ph, ih⟩ := part_ok hh
  refine (pe_slice or_sl ha pl ph).imp fun σ H Q hq => ?_
  obtain ⟨φ, ρ, S, st, re, q⟩ := TEv.norm hq
  refine ⟨φ, ρ, S, st, re, (Ans.step q).mono fun x H1 ⟨φ1, S1, d, st1, r1, k1, q1⟩ => ?_⟩
  refine il σ H1 φ1 ρ S1 _ Q _ st1 (re.keep k1) q1 fun o dl H2 φ2 S2 ho st2 k2 q2 => ?_
  refine ih σ H2 φ2 ρ S2 _ Q _ st2 ((re.keep k1).keep k2) q2 fun o' dh H3 φ3 S3 ho' st3 k3 q3 => ?_
  obtain ⟨a', va, q4⟩ := one_ans st3 ((r1.keep k2).keep k3) q3
  exact ⟨φ3, S3, a', dl, dh, st3, va, ho, ho', q4⟩

theorem se_isi (g : GX X k Φ fs bs) {a : Expr} {t : String} {x y : Str} {p p2 : Pos} {fa : Env → Cells → R D} (ha : PE X a (TEv X.K X.mg fa)) (ht : isiTys.contains t = true)
    (hx : x = "isinstance") (hg : Gl X x) (hb : x ∈ bs) (hg2 : Gl X y) (hb2 : y ∈ bs) (hv : bootBuiltins y = some (.type t)) (hn : y ≠ "__name__") (hd : (y == ("__debug__" : Str)) = false)
    (he : starEach [a, .Name y p2] X.env = (false, eval a X.env) :: starEach [.Name y p2] X.env) :
    PE X (.Call (.Name x p) [a, .Name y p2] [] pos) (TEv X.K X.mg fun ρ S => norm S.length ((fa ρ S).bind fun x S => one x S fun x => bR (isiV t x) S)) := by
  subst hx
  refine (pe_callB (or_isi t) hg (g.blts _ hb) boot_isinstance (pa_cons ha (pa_cons (pe_bltn hg2 (g.blts _ hb2) hv (v := .ty t) rfl hn hd) pa_nil) he) (he := he)).imp fun σ H Q hq => ?_
  obtain ⟨φ, ρ, S, st, re, q⟩ := TEv.norm hq
  refine ⟨φ, ρ, S, st, re, (Ans.step q).mono fun v H1 ⟨φ1, S1, d, st1, r1, k1, q1⟩ => ?_⟩
  obtain ⟨a', va, q2⟩ := one_ans st1 r1 q1
  exact ⟨φ1, S1, v, a', rfl, ht, st1, va, q2⟩

/-! ### built-ins -/
theorem se_blt (g : GX X k Φ fs bs) {b : Blt} {x : Str} {p : Pos} {e : Expr} {es : List Expr} {fa : Env → Cells → R (List D)} (hb : bltOk b = true) (hx : x = bltName b) (hg : Gl X x) (hm : x ∈ bs) (ha : PA X (e :: es) (TAv X.K X.mg fa))
    (he : starEach (e :: es) X.env = (false, eval e X.env) :: starEach es X.env) (hpl : (backTo pos (starEach es X.env)).any (·.1) = false) :
    PE X (.Call (.Name x p) (e :: es) [] pos) (TEv X.K X.mg fun ρ S => norm S.length ((fa ρ S).bind fun ds S => bltV b ds S)) := by
  subst hx
  have key : ∀ t : TE, t = tCB (rBlt X.K X.mg b) (TAv X.K X.mg fa) → PE X (.Call (.Name (bltName b) p) (e :: es) [] pos) t →
      PE X (.Call (.Name (bltName b) p) (e :: es) [] pos) (TEv X.K X.mg fun ρ S => norm S.length ((fa ρ S).bind fun ds S => bltV b ds S)) := fun t et h => by
    subst et
    refine h.imp fun σ H Q hq => ?_
    obtain ⟨φ, ρ, S, st, re, q⟩ := TEv.norm hq
    exact ⟨φ, ρ, S, st, re, anss_id q fun vs H1 φ1 S1 ds s1 r1 _ a1 => ⟨φ1, S1, ds, s1, r1, a1⟩⟩
  have o := or_blt g.calm g.hu g.guards b hb
  cases b <;> first
    | (cases hb; done)
    | exact key _ rfl (pe_callB o hg (g.blts _ hm) (by decide +kernel) ha (hn := by decide +kernel) (hdb := by decide +kernel) (he := he) (hpl := hpl))
    | exact key _ rfl (pe_callTy o hg (g.blts _ hm) (by decide +kernel) ha (hn := by decide +kernel) (hdb := by decide +kernel) (he := he) (hpl := hpl))
end
end VS

/-! VS, part I: methods. -/
namespace VS
open PySem PySem.Spec L2 PyProof.Rows

section
variable {X : Cx} {k : Nat} {Φ : CallF} {fs bs : List Str} {pos : Pos}
theorem need_ok {c : Bool} {r : R D} {e : D} {S' : Cells} (h : R.need c r = .ok e S') : c = true ∧ r = .ok e S' := by
  cases c with
  | true => exact ⟨rfl, h⟩
  | false => cases h
/-- a list's method, read by the interpreter -/
def rMth (K : PySem.W.Frag) (mg : Str → Option Value) (m : Mth) : V → List V → Hp → VK → Prop := fun x vs H Q => ∃ φ S d ds, StOk K mg H φ S ∧ Rep K mg H φ S x d ∧ Repl K mg H φ S vs ds ∧ Ans K mg (mthV m d ds S) H φ S Q
def mthId : Mth → String
  | .append => "list.append" | .extend => "list.extend" | .pop0 => "list.pop" | .pop1 => "list.pop" | .reverse => "list.reverse" | .join => "str.join"
def mthTy : Mth → String
  | .join => "str" | _ => "list"
def mthName : Mth → Str
  | .append => "append" | .extend => "extend" | .pop0 => "pop" | .pop1 => "pop" | .reverse => "reverse" | .join => "join"
theorem or_mth (m : Mth) : MtR X (mthId m) (rMth X.K X.mg m) := by
  intro pins s σ H x vs v us Q I rx rv ⟨φ, S, d, ds, st, r, rr, h⟩
  cases m with
  | append =>
    match ds, rr, h with
    | [e], rr, h =>
      obtain ⟨y, ev, ry⟩ := rr.one
      simp only [mthV] at h
      cases ef : frz e S with
      | exn z S1 => rw [ef] at h; exact h.elim
      | stuck => rw [ef] at h; exact h.elim
      | ok e' S1 =>
        rw [ef] at h
        obtain ⟨st1, dy, k1⟩ := frz_ok st ry ef
        have h1 := Ans.later k1 h
        obtain ⟨n, a, xs, ws, res, e1, e2, e3, e4, e5, e6, ⟨S2, e7⟩, h2⟩ := grow_ans st1 (r.keep k1) h1
        obtain ⟨c, e8⟩ := need_ok e7
        cases e8
        obtain ⟨st2, k2, sy⟩ := cell_set st1 e3 e4 (e6.append (.cons dy .nil))
        subst e2
        refine mt_append pins s σ H _ vs v us Q I rx rv ⟨a, ws, y, rfl, ev, e5, ?_, h2 _ _ _ st2 (.dat .non) k2⟩
        have := of_decide_eq_true c
        rw [e6.length, ← line_eq]
        omega
    | [], _, h => exact h.elim
    | _ :: _ :: _, _, h => exact h.elim
  | extend =>
    match ds, rr, h with
    | [e], rr, h =>
      obtain ⟨y, ev, ry⟩ := rr.one
      simp only [mthV] at h
      obtain ⟨b, vb, h⟩ := one_ans st ry h
      cases b <;> try (exact h.elim)
      case lst ys =>
        obtain ⟨q, zs, f1, f2, f3⟩ := vb.lst
        obtain ⟨n, a, xs, ws, res, e1, e2, e3, e4, e5, e6, ⟨S2, e7⟩, h2⟩ := grow_ans st r h
        obtain ⟨c, e8⟩ := need_ok e7
        cases e8
        obtain ⟨st2, k2, sy⟩ := cell_set st e3 e4 (e6.append f3)
        subst e2
        refine mt_extend pins s σ H _ vs v us Q I rx rv ⟨a, q, ws, zs, rfl, by rw [ev, f1], e5, f2, ?_, h2 _ _ _ st2 (.dat .non) k2⟩
        rw [e6.length, f3.length]
        exact sl_line c
    | [], _, h => exact h.elim
    | _ :: _ :: _, _, h => exact h.elim
  | pop0 =>
    match ds, rr, h with
    | [e], rr, h =>
      obtain ⟨y, ev, ry⟩ := rr.one
      cases e <;> try (exact h.elim)
      case int i =>
        by_cases hi : i = 0
        · subst hi
          have h : Ans X.K X.mg (grow d S (fun xs => match xs with | x :: _ => .ok x S | [] => .stuck) (fun xs => xs.tail)) H φ S Q := h
          obtain ⟨n, a, xs, ws, res, e1, e2, e3, e4, e5, e6, ⟨S2, e7⟩, h2⟩ := grow_ans st r h
          cases xs with
          | nil => cases e7
          | cons x0 xr =>
            cases e7
            cases e6 with
            | cons w0 wr =>
              rename_i w ws
              obtain ⟨st2, k2, sy⟩ := cell_set st e3 e4 wr
              subst e2
              exact mt_popAt pins s σ H _ vs v us Q I rx rv ⟨a, w :: ws, 0, 0, w, rfl, by rw [ev, rep_int ry], e5, by decide, by decide, by simp [PySem.seqIndex?], rfl, h2 _ _ _ st2 (.dat (w0.stay sy)) k2⟩
        · have h : Ans X.K X.mg (if i = 0 then grow d S (fun xs => match xs with | x :: _ => .ok x S | [] => .stuck) (fun xs => xs.tail) else .stuck) H φ S Q := h
          rw [if_neg hi] at h
          exact h.elim
    | [], _, h => exact h.elim
    | e :: _ :: _, _, h => cases e <;> exact h.elim
  | pop1 => cases ds <;> exact h.elim
  | reverse =>
    match ds, rr, h with
    | [], rr, h =>
      cases rr
      have h : Ans X.K X.mg (grow d S (fun _ => .ok .non S) List.reverse) H φ S Q := h
      obtain ⟨n, a, xs, ws, res, e1, e2, e3, e4, e5, e6, ⟨S2, e7⟩, h2⟩ := grow_ans st r h
      cases e7
      obtain ⟨st2, k2, sy⟩ := cell_set st e3 e4 e6.reverse
      subst e2
      exact mt_reverse pins s σ H _ _ v us Q I rx rv ⟨a, ws, rfl, rfl, e5, h2 _ _ _ st2 (.dat .non) k2⟩
    | _ :: _, _, h => exact h.elim
  | join =>
    match ds, rr, h with
    | [e], rr, h =>
      obtain ⟨y, ev, ry⟩ := rr.one
      simp only [mthV] at h
      obtain ⟨sep, hsep⟩ : ∃ sep, d = .str sep := by
        cases d <;> first | exact ⟨_, rfl⟩ | exact h.elim
      subst hsep
      dsimp only at h
      obtain ⟨b, vb, h⟩ := one_ans st ry h
      split at h
      · rename_i xs hxs
        split at h
        · rename_i ss hss
          obtain ⟨q, zs, f1, f2, f3⟩ := vb.seq hxs
          rw [strs_V f3 hss] at f2
          obtain ⟨c, h⟩ := need_ans h
          exact mt_join pins s σ H _ vs v us Q I rx rv ⟨sep, q, ss, rep_str r, by rw [ev, f1], f2, of_decide_eq_true c, here_s st h⟩
        · exact h.elim
      · exact h.elim
    | [], _, h => exact h.elim
    | _ :: _ :: _, _, h => exact h.elim
theorem frz_noexn (d : D) (S : Cells) (x : Exn) (S' : Cells) : frz d S ≠ .exn x S' := by
  intro z
  unfold frz at z
  split at z
  · split at z <;> cases z
  · cases z
/-- what the interpreter asks of the receiver, ahead of the arguments -/
theorem mth_ty {m : Mth} {d : D} {x : V} {H : Hp} {φ : Ad} {S : Cells} (st : StOk X.K X.mg H φ S) (r : Rep X.K X.mg H φ S x d) (h : ¬ ∀ ds S, mthV m d ds S = .stuck) : tyV X.K (mthTy m) x H := by
  have ref : (∃ n, d = .ref n) → tyV X.K "list" x H := fun ⟨n, e⟩ => by
    subst e
    cases r with
    | dat z => cases z
    | @ref a _ z =>
      obtain ⟨vs, q⟩ := st.there z
      exact .inl ⟨rfl, vs, .of q⟩
  have gro : (∀ n, d ≠ .ref n) → ∀ S f g, grow d S f g = .stuck := fun hn S f g => by
    unfold grow
    cases d <;> first | rfl | exact absurd rfl (hn _)
  have hr : m ≠ .join → ∃ n, d = .ref n := fun hm => by
    refine Classical.byContradiction fun hn => h fun ds S => ?_
    have g := gro fun n e => hn ⟨n, e⟩
    cases m with
    | append =>
      match ds with
      | [] => rfl
      | [e] =>
        show (frz e S).bind _ = _
        cases ef : frz e S with
        | ok a b => exact g _ _ _
        | exn a b => exact absurd ef (frz_noexn _ _ _ _)
        | stuck => rfl
      | _ :: _ :: _ => rfl
    | extend =>
      match ds with
      | [] => rfl
      | [e] =>
        show one e S _ = _
        unfold one
        cases val S e with
        | none => rfl
        | some a => cases a <;> first | rfl | exact g _ _ _
      | _ :: _ :: _ => rfl
    | pop0 =>
      match ds with
      | [] => rfl
      | [e] =>
        cases e <;> try rfl
        case int i =>
          simp only [mthV]
          split
          · exact g _ _ _
          · rfl
      | e :: _ :: _ => cases e <;> rfl
    | pop1 => cases ds <;> rfl
    | reverse => cases ds <;> first | rfl | exact g _ _ _
    | join => exact absurd rfl hm
  cases m with
  | join =>
    show tyV X.K "str" x H
    cases d with
    | str sep => rw [rep_str r] <;> rfl
    | _ => exact absurd (fun ds S => by cases ds with | nil => rfl | cons a b => cases b <;> rfl) h
  | append => exact ref (hr fun z => nomatch z)
  | extend => exact ref (hr fun z => nomatch z)
  | pop0 => exact ref (hr fun z => nomatch z)
  | pop1 => exact ref (hr fun z => nomatch z)
  | reverse => exact ref (hr fun z => nomatch z)
theorem not_stuck {r : R (List D)} {g : List D → Cells → R D} {H : Hp} {φ : Ad} {S : Cells} {Q : VK} (h : Ans X.K X.mg (r.bind g) H φ S Q) : ¬ ∀ ds S, g ds S = .stuck := fun z => by
  cases r with
  | ok ds S1 => simp only [R.bind] at h; rw [z] at h; exact h
  | exn x S1 => exact h
  | stuck => exact h
/-- o.m(e), o a name or a constant -/
theorem se_mth1 {m : Mth} {o e : Expr} {apos : Pos} {fo : Env → Cells → R D} {fa : Env → Cells → R (List D)} (hm : m ≠ .reverse ∧ m ≠ .pop1) (ho : PE X o (TEv X.K X.mg fo)) (ha : PA X [e] (TAv X.K X.mg fa))
    (hbase : attributeBase o (mthName m) X.env (eval o X.env) = eval o X.env) (hline : (apos.endLine == pos.line) = true) (hs : starEach [e] X.env = (false, eval e X.env) :: starEach [] X.env) :
    PE X (.Call (.Attribute o (mthName m) apos) [e] [] pos) (TEv X.K X.mg fun ρ S => norm S.length ((fo ρ S).bind fun x S => (fa ρ S).bind fun ds S => mthV m x ds S)) := by
  have hfew : ((backTo pos (starEach [e] X.env)).all (fun x => !x.1) && (backToKw pos (keywordEach [] X.env)).all (fun x => x.1.isSome)
      && decide (([e] : List Expr).length + ([] : List Keyword).length + (if ([] : List Keyword).isEmpty then 0 else 1) < 30)) = true := by rw [hs] <;> rfl
  have key : ∀ t : TE, t = tBM X.K (mthTy m) (rMth X.K X.mg m) (TEv X.K X.mg fo) (TAv X.K X.mg fa) → PE X (.Call (.Attribute o (mthName m) apos) [e] [] pos) t →
      PE X (.Call (.Attribute o (mthName m) apos) [e] [] pos) (TEv X.K X.mg fun ρ S => norm S.length ((fo ρ S).bind fun x S => (fa ρ S).bind fun ds S => mthV m x ds S)) := fun t et h => by
    subst et
    refine h.imp fun σ H Q hq => ?_
    obtain ⟨φ, ρ, S, st, re, q⟩ := TEv.norm hq
    refine ⟨φ, ρ, S, st, re, (Ans.step q).mono fun x H1 ⟨φ1, S1, d, st1, r1, k1, q1⟩ => ?_⟩
    refine ⟨mth_ty st1 r1 (not_stuck q1), φ1, ρ, S1, st1, re.keep k1, anss_id q1 fun vs H2 φ2 S2 ds s2 r2 k2 a2 => ⟨φ2, S2, d, ds, s2, r1.keep k2, r2, a2⟩⟩
  have o' := or_mth (X := X) m
  cases m with
  | append => exact key _ rfl (pe_bm PySem.F.plainAttrs_list PySem.F.slot_list_append PySem.F.type_list_append o' ho ha (hbase := hbase) (hfew := hfew) (hline := hline) (hs := hs) (hplain := rfl))
  | extend => exact key _ rfl (pe_bm PySem.F.plainAttrs_list PySem.F.slot_list_extend PySem.F.type_list_extend o' ho ha (hbase := hbase) (hfew := hfew) (hline := hline) (hs := hs) (hplain := rfl))
  | pop0 => exact key _ rfl (pe_bm PySem.F.plainAttrs_list PySem.F.slot_list_pop PySem.F.type_list_pop o' ho ha (hbase := hbase) (hfew := hfew) (hline := hline) (hs := hs) (hplain := rfl))
  | pop1 => exact absurd rfl hm.2
  | reverse => exact absurd rfl hm.1
  | join => exact key _ rfl (pe_bm PySem.F.plainAttrs_str PySem.F.slot_str_join PySem.F.type_str_join o' ho ha (hbase := hbase) (hfew := hfew) (hline := hline) (hs := hs) (hplain := rfl))
theorem se_rev {o : Expr} {apos : Pos} {fo : Env → Cells → R D} (ho : PE X o (TEv X.K X.mg fo)) (hbase : attributeBase o "reverse" X.env (eval o X.env) = eval o X.env) (hline : (apos.endLine == pos.line) = true) :
    PE X (.Call (.Attribute o "reverse" apos) [] [] pos) (TEv X.K X.mg fun ρ S => norm S.length ((fo ρ S).bind fun x S => (R.ok [] S).bind fun ds S => mthV .reverse x ds S)) :=
  (pe_bm0 PySem.F.plainAttrs_list PySem.F.slot_list_reverse PySem.F.type_list_reverse (or_mth (X := X) .reverse) ho (hbase := hbase) (hline := hline)).imp fun σ H Q hq => by
    obtain ⟨φ, ρ, S, st, re, q⟩ := TEv.norm hq
    refine ⟨φ, ρ, S, st, re, (Ans.step q).mono fun x H1 ⟨φ1, S1, d, st1, r1, k1, q1⟩ => ?_⟩
    exact ⟨mth_ty st1 r1 (not_stuck q1), φ1, S1, d, [], st1, r1, .nil, q1⟩
end
end VS

/-! VS, part J: what is walked. -/
namespace VS
open PySem PySem.Spec L2 PyProof.Rows

/-- what stays over a walk: new things may be banned -/
structure Keep0 (H : Hp) (φ : Ad) (S : Cells) (H' : Hp) (φ' : Ad) (S' : Cells) : Prop where
  pre : ∀ (n : Nat) (a : Addr), φ.cs[n]? = some a → φ'.cs[n]? = some a
  mu : ∀ a, H a ≠ none → Mu φ' S' a → Mu φ S a
  wr : ∀ a, H a ≠ none → Wr φ' S' a → Wr φ S a
  frame : ∀ a o, H a = some o → ¬ Wr φ S a → H' a = some o
  there : ∀ a, H a ≠ none → H' a ≠ none
theorem Keep.k0 {H H' : Hp} {φ φ' : Ad} {S S' : Cells} (k : Keep H φ S H' φ' S') : Keep0 H φ S H' φ' S' := ⟨k.pre, k.mu, k.wr, k.frame, k.there⟩
theorem Keep0.k {H H' : Hp} {φ φ' : Ad} {S S' : Cells} (k : Keep0 H φ S H' φ' S') (b : φ'.bs = φ.bs) : Keep H φ S H' φ' S' := ⟨k.pre, b, k.mu, k.wr, k.frame, k.there⟩
theorem Keep0.trans {H H1 H2 : Hp} {φ φ1 φ2 : Ad} {S S1 S2 : Cells} (a : Keep0 H φ S H1 φ1 S1) (b : Keep0 H1 φ1 S1 H2 φ2 S2) : Keep0 H φ S H2 φ2 S2 :=
  ⟨fun n x h => b.pre n x (a.pre n x h), fun x h m => a.mu x h (b.mu x (a.there x h) m), fun x h m => a.wr x h (b.wr x (a.there x h) m),
   fun x o h n => b.frame x o (a.frame x o h n) fun z => n (a.wr x (by rw [h]; exact fun q => nomatch q) z), fun x h => b.there x (a.there x h)⟩
section
variable {K : PySem.W.Frag} {mg : Str → Option Value} {H H' : Hp} {φ φ' : Ad} {S S' : Cells}
theorem Keep0.stay (k : Keep0 H φ S H' φ' S') : Stay H (Mu φ S) H' (Mu φ' S') := ⟨fun a o h n => k.frame a o h fun z => n z.mu, k.mu⟩
theorem Rep.keep0 (k : Keep0 H φ S H' φ' S') {v : V} {d : D} (h : Rep K mg H φ S v d) : Rep K mg H' φ' S' v d := by
  cases h with
  | dat h => exact .dat (h.stay k.stay)
  | ref h => exact .ref (k.pre _ _ h)
theorem REnv.keep0 (k : Keep0 H φ S H' φ' S') {σ : L2.St} {ρ : Env} (h : REnv K mg H φ S σ ρ) : REnv K mg H' φ' S' σ ρ :=
  ⟨h.len, fun i d e => let ⟨v, e1, r⟩ := h.at_ i d e; ⟨v, e1, r.keep0 k⟩⟩
end

section
variable (K : PySem.W.Frag) (mg : Str → Option Value)
/-- a walk that gives these items, from this state on -/
def WOk (J : L2.It) (H : Hp) (φ : Ad) (S : Cells) (ds : List D) : Prop := ∃ (G : Hp → Prop) (Y : Nat → Hp → V → Hp → Prop), Walk J ds.length G Y ∧
  (∀ H' φ' S', Keep0 H φ S H' φ' S' → G H') ∧
  (∀ i Hi φi Si x Hi', i < ds.length → StOk K mg Hi φi Si → Keep0 H φ S Hi φi Si → Y i Hi x Hi' → ∃ d, ds[i]? = some d ∧ StOk K mg Hi' φi Si ∧ Dat K mg Hi' (Mu φi Si) x d ∧ Keep Hi φi Si Hi' φi Si ∧ ∀ b, Hi b ≠ none → Hi' b = Hi b)
/-- the answer of a walk's making -/
def AnsW (r : R Walked) (H : Hp) (φ : Ad) (S : Cells) (R' : L2.It → Hp → Prop) : Prop :=
  match r with
  | .ok w S' => ∀ J H' φ', StOk K mg H' φ' S' → Keep H φ S H' φ' S' → S'.length = S.length → (∀ m, w.2 = some m → m < S.length ∧ ∃ a, φ.cs[m]? = some a ∧ Wr φ S a) → WOk K mg J H' φ' S' w.1 → R' J H'
  | _ => False
def TIv (f : Env → Cells → R Walked) : TI := fun σ H R' => ∃ φ ρ S, StOk K mg H φ S ∧ REnv K mg H φ S σ ρ ∧ AnsW K mg (f ρ S) H φ S R'
end

section
variable {K : PySem.W.Frag} {mg : Str → Option Value} {H : Hp} {φ : Ad} {S : Cells}
theorem wok_list {a : Addr} {vs : List V} {ds : List D} (h : H a = some (.lst vs)) (n : ¬ Wr φ S a) (r : Dats K mg H (Mu φ S) vs ds) : WOk K mg (Itl K a) H φ S ds := by
  refine ⟨_, _, by rw [← r.length]; exact walk_list (K := K) (a := a) (xs := vs), fun H' φ' S' k => SqL.of (k.frame a _ h n), fun i Hi φi Si x Hi' hi st k y => ?_⟩
  obtain ⟨e1, e2⟩ := y
  subst e1
  obtain ⟨d, f1, f2⟩ := r.at_len e2
  exact ⟨d, f1, st, f2.stay k.stay, Keep.refl _ _ _, fun _ _ => rfl⟩
theorem wok_tup {a : Addr} {vs : List V} {ds : List D} (h : StT K H (Mu φ S) a vs) (r : Dats K mg H (Mu φ S) vs ds) : WOk K mg (Itt K a) H φ S ds := by
  refine ⟨_, _, by rw [← r.length]; exact walk_tup (K := K) (a := a) (xs := vs), fun H' φ' S' k => ?_, fun i Hi φi Si x Hi' hi st k y => ?_⟩
  · rcases h with ⟨s, n⟩ | s
    · exact .inl (k.stay.rd s n).1
    · exact .inr s
  · obtain ⟨e1, e2⟩ := y
    subst e1
    obtain ⟨d, f1, f2⟩ := r.at_len e2
    exact ⟨d, f1, st, f2.stay k.stay, Keep.refl _ _ _, fun _ _ => rfl⟩
theorem wok_str {z : Str} : WOk K mg (Its z) H φ S (z.cps.toList.map fun c => D.str ⟨#[c]⟩) := by
  refine ⟨_, _, by rw [List.length_map, Array.length_toList]; exact walk_str (z := z), fun _ _ _ _ => trivial, fun i Hi φi Si x Hi' hi st k y => ?_⟩
  obtain ⟨e1, c, e2, e3⟩ := y
  subst e1 e3
  refine ⟨.str ⟨#[c]⟩, ?_, st, .str _, Keep.refl _ _ _, fun _ _ => rfl⟩
  rw [List.getElem?_map, Array.getElem?_toList, e2] <;> rfl
theorem wok_rng {lo : Int} {n : Nat} : WOk K mg (Itr lo n) H φ S (rngD lo n) := by
  have hl : (rngD lo n).length = n := by simp [rngD]
  refine ⟨_, _, by rw [hl]; exact walk_range (lo := lo) (n := n), fun _ _ _ _ => trivial, fun i Hi φi Si x Hi' hi st k y => ?_⟩
  obtain ⟨e1, e2⟩ := y
  subst e1 e2
  rw [hl] at hi
  exact ⟨.int (lo + i), by simp [rngD, hi], st, .int _, Keep.refl _ _ _, fun _ _ => rfl⟩
theorem wok_rev {a : Addr} {vs : List V} {ds : List D} (h : H a = some (.lst vs)) (n : ¬ Wr φ S a) (r : Dats K mg H (Mu φ S) vs ds) : WOk K mg (Itv K a vs.length) H φ S ds.reverse := by
  refine ⟨_, _, by rw [List.length_reverse, ← r.length]; exact walk_rev (K := K) (a := a) (xs := vs), fun H' φ' S' k => SqL.of (k.frame a _ h n), fun i Hi φi Si x Hi' hi st k y => ?_⟩
  obtain ⟨e1, e2⟩ := y
  subst e1
  obtain ⟨d, f1, f2⟩ := r.at_len e2
  rw [List.length_reverse] at hi
  refine ⟨d, ?_, st, f2.stay k.stay, Keep.refl _ _ _, fun _ _ => rfl⟩
  rw [List.getElem?_reverse hi, ← r.length]
  exact f1
theorem wok_enum {a : Addr} {vs : List V} {ds : List D} (h : H a = some (.lst vs)) (n : ¬ Wr φ S a) (r : Dats K mg H (Mu φ S) vs ds) : WOk K mg (Ite K a) H φ S (enumD ds) := by
  have hl : (enumD ds).length = ds.length := by simp [enumD]
  refine ⟨_, _, by rw [hl, ← r.length]; exact walk_enum (K := K) (a := a) (xs := vs), fun H' φ' S' k => SqL.of (k.frame a _ h n), fun i Hi φi Si x Hi' hi st k y => ?_⟩
  rw [hl] at hi
  obtain ⟨T, p, q, e1, e2, e3, e4, e5⟩ := y
  subst e1 e3
  cases e4
  obtain ⟨d, f1, f2⟩ := r.at_len e5
  have f3 := f2.stay k.stay
  obtain ⟨s1, d1, k1⟩ := lay_tup st e2 (.cons (.int (i : Nat)) (.cons f3 .nil))
  refine ⟨.tup [.int i, d], ?_, s1, d1, k1, fun b hb => upd_ne fun z => hb (by rw [z]; exact e2)⟩
  have : ds.getD i .non = d := by rw [List.getD_eq_getElem?_getD, f1] <;> rfl
  simp only [enumD, List.getElem?_map, List.getElem?_range hi, Option.map_some, this]

/-- a sequence held for a walk -/
theorem hold_ok {H0 : Hp} {φ0 : Ad} {S0 S1 S' : Cells} {φ1 : Ad} {v : V} {d : D} {w : Walked} (st0 : StOk K mg H0 φ0 S0) (st : StOk K mg H φ1 S1) (k : Keep H0 φ0 S0 H φ1 S1) (r : Rep K mg H φ1 S1 v d) (h : hold S0.length d S1 = .ok w S') :
    ∃ φ', StOk K mg H φ' S' ∧ Keep H0 φ0 S0 H φ' S' ∧ S'.length = S0.length ∧ (∀ m, w.2 = some m → m < S0.length ∧ ∃ a, φ0.cs[m]? = some a ∧ Wr φ0 S0 a) ∧
      ((∃ z, v = .str z ∧ w.1 = z.cps.toList.map fun c => D.str ⟨#[c]⟩) ∨
        ∃ a vs, v = .ref a ∧ Dats K mg H (Mu φ' S') vs w.1 ∧ ((H a = some (.lst vs) ∧ ¬ Wr φ' S' a ∧ (∃ xs, d = .lst xs) ∨ (H a = some (.lst vs) ∧ ¬ Wr φ' S' a ∧ ∃ n, d = .ref n)) ∨ (StT K H (Mu φ' S') a vs ∧ ∃ xs, d = .tup xs))) := by
  have hn : S0.length = φ0.cs.length := st0.len.symm
  have hle : S0.length ≤ S1.length := keep_len st0 st k
  have tk : StOk K mg H (φ1.take S0.length) (S1.take S0.length) := st.take _
  have kk : Keep H0 φ0 S0 H (φ1.take S0.length) (S1.take S0.length) := k.take hn
  have ll : (S1.take S0.length).length = S0.length := by rw [List.length_take]; omega
  cases d <;> try (cases h; done)
  case str z =>
    cases h
    exact ⟨_, tk, kk, ll, fun m e => (nomatch e), .inl ⟨z, rep_str r, rfl⟩⟩
  case lst xs =>
    cases h
    cases r with
    | dat r =>
      cases r with
      | lst e n r => exact ⟨_, tk, kk, ll, fun m e => (nomatch e), .inr ⟨_, _, rfl, r.stay (Stay.mu_le fun _ m => m.take), .inl (.inl ⟨e, fun z => n z.take.mu, xs, rfl⟩)⟩⟩
  case tup xs =>
    cases h
    cases r with
    | dat r =>
      cases r with
      | tup s r =>
        refine ⟨_, tk, kk, ll, fun m e => (nomatch e), .inr ⟨_, _, rfl, r.stay (Stay.mu_le fun _ m => m.take), .inr ⟨?_, xs, rfl⟩⟩⟩
        rcases s with ⟨s, n⟩ | s
        · exact .inl ⟨s, fun z => n z.take⟩
        · exact .inr s
  case ref m =>
    cases r with
    | dat z => cases z
    | @ref a _ z =>
      have hm : m < S1.length := by rw [← st.len]; exact (List.getElem?_eq_some_iff.mp z).1
      have hc : S1[m]? = some S1[m] := by simp [hm]
      obtain ⟨ds, vs, e1, e2, e3⟩ := st.at_ m a _ z hc
      generalize hcc : S1[m] = c at *
      obtain ⟨l, cc⟩ := c
      simp only at e1
      subst e1
      -- dropped, or not to be changed: no writer
      have drop : l ≠ .mu ∨ ¬ m < S0.length → ¬ Wr (φ1.take S0.length) (S1.take S0.length) a := fun hh ⟨i, c', h1, h2, h3⟩ => by
        obtain ⟨q1, q2⟩ := getElem?_take_le h1
        obtain ⟨q3, _⟩ := getElem?_take_le h2
        have ei : i = m := nd_get st.nd q1 z
        subst ei
        rw [hc] at q3
        cases q3
        rcases hh with hh | hh
        · exact hh h3
        · exact hh q2
      simp only [hold, hc] at h
      cases l with
      | mu =>
        simp only at h
        split at h
        · rename_i hlt
          cases h
          have hc2 : (S1.take S0.length)[m]? = some ⟨.mu, .lst ds⟩ := by rw [List.getElem?_take, if_pos hlt]; exact hc
          have z2 : (φ1.take S0.length).cs[m]? = some a := by
            show (φ1.cs.take S0.length)[m]? = _
            rw [List.getElem?_take, if_pos hlt]; exact z
          obtain ⟨s2, mu2⟩ := relock (l := .lk) tk z2 hc2 (fun q => nomatch q)
          have k2 := Keep.relock (H := H) (l := .lk) hc2 mu2 (fun q => nomatch q)
          have z0 : φ0.cs[m]? = some a := by
            have hl0 : m < φ0.cs.length := by omega
            have e0 : φ0.cs[m]? = some φ0.cs[m] := by simp [hl0]
            have := k.pre m _ e0
            rw [z] at this
            rw [e0, this]
          refine ⟨_, s2, kk.trans k2, by rw [List.length_set]; exact ll, fun m' e => ?_, .inr ⟨a, vs, rfl, e3.stay (Stay.mu_le fun b q => (mu2 b q).take), .inl (.inr ⟨e2, ?_, m, rfl⟩)⟩⟩
          · cases e
            obtain ⟨vs0, h0⟩ := st0.there z0
            exact ⟨hlt, a, z0, k.wr a (some_ne h0) ⟨m, _, z, hc, rfl⟩⟩
          · rintro ⟨i, c', h1, h2, h3⟩
            have ei : i = m := nd_get tk.nd h1 z2
            subst ei
            rw [List.getElem?_set_self (List.getElem?_eq_some_iff.mp hc2).1] at h2
            cases h2
            cases h3
        · rename_i hlt
          cases h
          exact ⟨_, tk, kk, ll, fun m e => (nomatch e), .inr ⟨a, vs, rfl, e3.stay (Stay.mu_le fun _ q => q.take), .inl (.inr ⟨e2, drop (.inr hlt), m, rfl⟩)⟩⟩
      | lk =>
        cases h
        exact ⟨_, tk, kk, ll, fun m e => (nomatch e), .inr ⟨a, vs, rfl, e3.stay (Stay.mu_le fun _ q => q.take), .inl (.inr ⟨e2, drop (.inl fun q => nomatch q), m, rfl⟩)⟩⟩
      | fz =>
        cases h
        exact ⟨_, tk, kk, ll, fun m e => (nomatch e), .inr ⟨a, vs, rfl, e3.stay (Stay.mu_le fun _ q => q.take), .inl (.inr ⟨e2, drop (.inl fun q => nomatch q), m, rfl⟩)⟩⟩
end

section
variable {X : Cx} {k : Nat} {Φ : CallF} {fs bs : List Str} {pos : Pos} {tg : Expr}
theorem _root_.L2.PI.imp {X : Cx} {tg e : Expr} {t t' : TI} (h : PI X tg e t) (i : ∀ σ H Q, t' σ H Q → t σ H Q) : PI X tg e t' := ⟨fun pins s σ H Q I q => h.run pins s σ H Q I (i σ H Q q)⟩
/-- a sequence or a text -/
theorem si_seq {e : Expr} {f : Env → Cells → R D} (h : PE X e (TEv X.K X.mg f)) : PI X tg e (TIv X.K X.mg fun ρ S => (f ρ S).bind fun d S' => hold S.length d S') := by
  refine ⟨fun pins s σ H R' I q => ?_⟩
  obtain ⟨φ, ρ, S, st, re, q0⟩ := q
  have q1 : AnsW X.K X.mg ((f ρ S).bind fun d S' => hold S.length d S') H φ S R' := q0
  clear q0
  cases ef : f ρ S with
  | exn x S1 => rw [ef] at q1; exact q1.elim
  | stuck => rw [ef] at q1; exact q1.elim
  | ok d S1 =>
    rw [ef] at q1
    have q : AnsW X.K X.mg (hold S.length d S1) H φ S R' := q1
    clear q1
    cases eh : hold S.length d S1 with
    | exn x S2 => rw [eh] at q; exact q.elim
    | stuck => rw [eh] at q; exact q.elim
    | ok w S2 =>
      rw [eh] at q
      -- which of the three
      have seqL : (∃ n, d = .ref n) ∨ (∃ xs, d = .lst xs) → wpAny (model X.prog X.w) X.A (eval e X.env) (fun v s1 => wpAny (model X.prog X.w) X.A (pyIter v) (PIE X pins σ tg R') X.xe s1) X.xe s := fun hd =>
        (pi_list (tg := tg) h).run pins s σ H R' I ⟨φ, ρ, S, st, re, by
          rw [ef]
          intro v H1 φ1 st1 r1 k1
          obtain ⟨φ', s2, k2, l2, lk2, c⟩ := hold_ok st st1 k1 r1 eh
          rcases c with ⟨z, e1, _⟩ | ⟨a, vs, e1, e2, (⟨e3, e4, _⟩ | ⟨e3, e4, _⟩) | ⟨_, xs, e4⟩⟩
          · exfalso
            subst e1
            rcases hd with ⟨n, rfl⟩ | ⟨xs, rfl⟩
            · cases r1 with | dat z => cases z
            · cases r1 with | dat z => cases z
          · exact ⟨a, e1, ⟨vs, .of e3⟩, q _ H1 φ' s2 k2 l2 lk2 (wok_list e3 e4 e2)⟩
          · exact ⟨a, e1, ⟨vs, .of e3⟩, q _ H1 φ' s2 k2 l2 lk2 (wok_list e3 e4 e2)⟩
          · exfalso
            subst e4
            rcases hd with ⟨n, hd⟩ | ⟨xs, hd⟩ <;> cases hd⟩
      cases d <;> try (cases eh; done)
      case ref n => exact seqL (.inl ⟨n, rfl⟩)
      case lst xs => exact seqL (.inr ⟨xs, rfl⟩)
      case tup xs =>
        refine (pi_tup (tg := tg) h).run pins s σ H R' I ⟨φ, ρ, S, st, re, ?_⟩
        rw [ef]
        intro v H1 φ1 st1 r1 k1
        obtain ⟨φ', s2, k2, l2, lk2, c⟩ := hold_ok st st1 k1 r1 eh
        rcases c with ⟨z, e1, _⟩ | ⟨a, vs, e1, e2, (⟨e3, e4, ys, e5⟩ | ⟨e3, e4, n, e5⟩) | ⟨e3, ys, e4⟩⟩
        · subst e1
          cases r1 with | dat z => cases z
        · cases e5
        · cases e5
        · exact ⟨a, e1, ⟨vs, e3.sq⟩, q _ H1 φ' s2 k2 l2 lk2 (wok_tup e3 e2)⟩
      case str z =>
        refine (pi_str (tg := tg) h).run pins s σ H R' I ⟨φ, ρ, S, st, re, ?_⟩
        rw [ef]
        intro v H1 φ1 st1 r1 k1
        obtain ⟨φ', s2, k2, l2, lk2, c⟩ := hold_ok st st1 k1 r1 eh
        rcases c with ⟨z', e1, e2⟩ | ⟨a, vs, e1, _⟩
        · exact ⟨z', e1, q _ H1 φ' s2 k2 l2 lk2 (by rw [e2]; exact wok_str)⟩
        · rw [rep_str r1] at e1
          cases e1
theorem AnsW.of_ok {K : PySem.W.Frag} {mg : Str → Option Value} {w : Walked} {S' S : Cells} {H : Hp} {φ : Ad} {R' : L2.It → Hp → Prop} (h : AnsW K mg (.ok w S') H φ S R') :
    ∀ J H' φ', StOk K mg H' φ' S' → Keep H φ S H' φ' S' → S'.length = S.length → (∀ m, w.2 = some m → m < S.length ∧ ∃ a, φ.cs[m]? = some a ∧ Wr φ S a) → WOk K mg J H' φ' S' w.1 → R' J H' := h
end
end VS

/-! VS, part K: ranges, enumerate, reversed; comprehensions. -/
namespace VS
open PySem PySem.Spec L2 PyProof.Rows

section
variable {X : Cx} {k : Nat} {Φ : CallF} {fs bs : List Str} {pos : Pos} {tg : Expr}
theorem si_rng1 (g : GX X k Φ fs bs) {a : Expr} {p : Pos} {fa : Env → Cells → R D} (ha : PE X a (TEv X.K X.mg fa)) (hg : Gl X "range") (hb : ("range" : Str) ∈ bs) (hs : starEach [a] X.env = [(false, eval a X.env)]) :
    PI X tg (.Call (.Name "range" p) [a] [] pos) (TIv X.K X.mg fun ρ S => (fa ρ S).bind fun d S' => match d with
      | .int n => .need (decide (n < 4611686018427387904) && decide (-4611686018427387904 ≤ n)) (.ok (rngD 0 n.toNat, none) (S'.take S.length))
      | _ => .stuck) :=
  (pi_range1 hg (g.blts _ hb) (pa_cons ha pa_nil (hs := by rw [hs] <;> rfl)) (hs := hs)).imp fun σ H R' ⟨φ, ρ, S, st, re, q0⟩ => by
    refine ⟨φ, ρ, S, st, re, ?_⟩
    dsimp only at q0
    cases ef : fa ρ S with
    | exn x S1 => rw [ef] at q0; exact q0.elim
    | stuck => rw [ef] at q0; exact q0.elim
    | ok d S1 =>
      rw [ef] at q0
      intro v H1 φ1 st1 r1 k1
      cases d <;> try (exact q0.elim)
      case int n =>
        simp only [R.bind] at q0
        cases c : (decide (n < 4611686018427387904) && decide (-4611686018427387904 ≤ n)) with
        | false => rw [c] at q0; exact q0.elim
        | true =>
          rw [c] at q0
          simp only [Bool.and_eq_true, decide_eq_true_eq] at c
          have hl := keep_len st st1 k1
          refine ⟨n, by rw [rep_int r1], by omega, by omega, ?_⟩
          exact AnsW.of_ok q0 _ H1 (φ1.take S.length) (st1.take _) (k1.take (by rw [st.len])) (by rw [List.length_take]; omega) (fun m e => nomatch e) wok_rng
theorem si_rng2 (g : GX X k Φ fs bs) {a b : Expr} {p : Pos} {fa fb : Env → Cells → R D} (ha : PE X a (TEv X.K X.mg fa)) (hb' : PE X b (TEv X.K X.mg fb)) (hg : Gl X "range") (hb : ("range" : Str) ∈ bs)
    (hs : starEach [a, b] X.env = [(false, eval a X.env), (false, eval b X.env)]) (hs2 : starEach [b] X.env = [(false, eval b X.env)]) :
    PI X tg (.Call (.Name "range" p) [a, b] [] pos) (TIv X.K X.mg fun ρ S => (fa ρ S).bind fun d S1 => (fb ρ S1).bind fun e S' => match d, e with
      | .int m, .int n => .need (decide (n < 4611686018427387904) && decide (-4611686018427387904 ≤ n) && decide (m < 4611686018427387904) && decide (-4611686018427387904 ≤ m)) (.ok (rngD m (n - m).toNat, none) (S'.take S.length))
      | _, _ => .stuck) :=
  (pi_range2 hg (g.blts _ hb) (pa_cons ha (pa_cons hb' pa_nil (hs := by rw [hs2] <;> rfl)) (hs := by rw [hs, hs2])) (hs := hs) (hs2 := hs2)).imp fun σ H R' ⟨φ, ρ, S, st, re, q0⟩ => by
    refine ⟨φ, ρ, S, st, re, ?_⟩
    dsimp only at q0
    cases ef : fa ρ S with
    | exn x S1 => rw [ef] at q0; exact q0.elim
    | stuck => rw [ef] at q0; exact q0.elim
    | ok d S1 =>
      rw [ef] at q0
      simp only [R.bind] at q0
      intro v H1 φ1 st1 r1 k1
      refine ⟨φ1, ρ, S1, st1, re.keep k1, ?_⟩
      cases eg : fb ρ S1 with
      | exn x S2 => rw [eg] at q0; exact q0.elim
      | stuck => rw [eg] at q0; exact q0.elim
      | ok e S2 =>
        rw [eg] at q0
        intro u H2 φ2 st2 r2 k2
        cases d <;> try (exact q0.elim)
        case int m =>
          cases e <;> try (exact q0.elim)
          case int n =>
            simp only at q0
            cases c : (decide (n < 4611686018427387904) && decide (-4611686018427387904 ≤ n) && decide (m < 4611686018427387904) && decide (-4611686018427387904 ≤ m)) with
            | false => rw [c] at q0; exact q0.elim
            | true =>
              rw [c] at q0
              simp only [Bool.and_eq_true, decide_eq_true_eq] at c
              have hl := keep_len st st2 (k1.trans k2)
              refine ⟨m, n, by rw [rep_int r1, rep_int r2], ⟨by omega, by omega, by omega, by omega⟩, ?_⟩
              exact AnsW.of_ok q0 _ H2 (φ2.take S.length) (st2.take _) ((k1.trans k2).take (by rw [st.len])) (by rw [List.length_take]; omega) (fun m e => nomatch e) wok_rng
theorem si_hold {f : Env → Cells → R D} {h : List D → List D} {R' : L2.It → Hp → Prop} {φ : Ad} {ρ : Env} {S : Cells} {H : Hp} {Q : V → Hp → Prop} (st : StOk X.K X.mg H φ S)
    (q0 : AnsW X.K X.mg ((f ρ S).bind fun d S' => (holdL S.length d S').bind fun w S => .ok (w.map h) S) H φ S R')
    (i : ∀ a vs ds H1 φ' S2, H1 a = some (.lst vs) → ¬ Wr φ' S2 a → Dats X.K X.mg H1 (Mu φ' S2) vs ds → (∀ J, WOk X.K X.mg J H1 φ' S2 (h ds) → R' J H1) → Q (.ref a) H1) : Ans X.K X.mg (f ρ S) H φ S Q := by
  cases ef : f ρ S with
  | exn x S1 => rw [ef] at q0; exact q0.elim
  | stuck => rw [ef] at q0; exact q0.elim
  | ok d S1 =>
    rw [ef] at q0
    simp only [R.bind] at q0
    intro v H1 φ1 st1 r1 k1
    cases eh : hold S.length d S1 with
    | exn x S2 => cases d <;> first | exact q0.elim | (simp only [holdL, eh] at q0; exact q0.elim)
    | stuck => cases d <;> first | exact q0.elim | (simp only [holdL, eh] at q0; exact q0.elim)
    | ok w S2 =>
      have q1 : AnsW X.K X.mg (.ok (w.map h) S2) H φ S R' := by
        cases d <;> first | exact q0.elim | (simp only [holdL, eh] at q0; exact q0)
      have hd : (∃ n, d = .ref n) ∨ ∃ xs, d = .lst xs := by
        cases d <;> first | exact q0.elim | exact .inl ⟨_, rfl⟩ | exact .inr ⟨_, rfl⟩
      obtain ⟨φ', s2, k2, l2, lk2, c⟩ := hold_ok st st1 k1 r1 eh
      rcases c with ⟨z, e1, _⟩ | ⟨a, vs, e1, e2, (⟨e3, e4, _⟩ | ⟨e3, e4, _⟩) | ⟨_, xs, e4⟩⟩
      · exfalso
        subst e1
        rcases hd with ⟨n, rfl⟩ | ⟨xs, rfl⟩
        · cases r1 with | dat z => cases z
        · cases r1 with | dat z => cases z
      · subst e1; exact i a vs w.1 H1 φ' S2 e3 e4 e2 fun J wk => AnsW.of_ok q1 J H1 φ' s2 k2 l2 lk2 wk
      · subst e1; exact i a vs w.1 H1 φ' S2 e3 e4 e2 fun J wk => AnsW.of_ok q1 J H1 φ' s2 k2 l2 lk2 wk
      · exfalso
        subst e4
        rcases hd with ⟨n, hd⟩ | ⟨xs, hd⟩ <;> cases hd
theorem si_enum (g : GX X k Φ fs bs) {e : Expr} {p tpos : Pos} {elts : List Expr} {kk : Nat} {f : Env → Cells → R D} (h : PE X e (TEv X.K X.mg f)) (hg : Gl X "enumerate") (hb : ("enumerate" : Str) ∈ bs) (hs : starEach [e] X.env = [(false, eval e X.env)]) :
    PI X (.Tuple elts kk tpos) (.Call (.Name "enumerate" p) [e] [] pos) (TIv X.K X.mg fun ρ S => (f ρ S).bind fun d S' => (holdL S.length d S').bind fun w S => .ok (w.map enumD) S) :=
  (pi_enum hg (g.blts _ hb) (pa_cons h pa_nil (hs := by rw [hs] <;> rfl)) (hs := hs)).imp fun σ H R' ⟨φ, ρ, S, st, re, q0⟩ =>
    ⟨φ, ρ, S, st, re, si_hold st q0 fun a vs ds H1 φ' S2 e3 e4 e2 q => ⟨a, vs, rfl, .of e3, q _ (wok_enum e3 e4 e2)⟩⟩
theorem si_rev (g : GX X k Φ fs bs) {e : Expr} {p : Pos} {f : Env → Cells → R D} (h : PE X e (TEv X.K X.mg f)) (hg : Gl X "reversed") (hb : ("reversed" : Str) ∈ bs) (hs : starEach [e] X.env = [(false, eval e X.env)]) :
    PI X tg (.Call (.Name "reversed" p) [e] [] pos) (TIv X.K X.mg fun ρ S => (f ρ S).bind fun d S' => (holdL S.length d S').bind fun w S => .ok (w.map List.reverse) S) :=
  (pi_reversed hg (g.blts _ hb) (pa_cons h pa_nil (hs := by rw [hs] <;> rfl)) (hs := hs)).imp fun σ H R' ⟨φ, ρ, S, st, re, q0⟩ =>
    ⟨φ, ρ, S, st, re, si_hold st q0 fun a vs ds H1 φ' S2 e3 e4 e2 q => ⟨a, vs, rfl, .of e3, q _ (wok_rev e3 e4 e2)⟩⟩
end

/-! ### targets, slots -/
section
variable {K : PySem.W.Frag} {mg : Str → Option Value} {H : Hp} {φ : Ad} {S : Cells} {σ : L2.St} {ρ : Env}
theorem REnv.set (re : REnv K mg H φ S σ ρ) {i : Nat} {v : V} {d : D} (r : Rep K mg H φ S v d) : REnv K mg H φ S (σ.set i (some v)) (ρ.set i (some d)) := by
  refine ⟨by simp [re.len], fun j e h => ?_⟩
  by_cases hi : i = j
  · subst hi
    have hl : i < ρ.length := by
      have := (List.getElem?_eq_some_iff.mp h).1
      simpa using this
    rw [List.getElem?_set_self hl] at h
    cases h
    exact ⟨v, List.getElem?_set_self (by rw [← re.len]; exact hl), r⟩
  · rw [List.getElem?_set_ne hi] at h ⊢
    exact re.at_ j e h
theorem REnv.wipe (re : REnv K mg H φ S σ ρ) : ∀ vs : List Nat, REnv K mg H φ S (L2.wipe σ vs) (wipeE ρ vs)
  | [] => re
  | v :: vs => by
    have ih := REnv.wipe re vs
    refine ⟨by show ((wipeE ρ vs).set v none).length = ((L2.wipe σ vs).set v none).length; simp [ih.len], fun j e h => ?_⟩
    have h : ((wipeE ρ vs).set v none)[j]? = some (some e) := h
    show ∃ w, ((L2.wipe σ vs).set v none)[j]? = some (some w) ∧ _
    by_cases hi : v = j
    · subst hi
      have hl := (List.getElem?_eq_some_iff.mp h).1
      rw [List.getElem?_set_self (by simpa using hl)] at h
      cases h
    · rw [List.getElem?_set_ne hi] at h ⊢
      exact ih.at_ j e h
theorem wipe_set (σ : L2.St) (i : Nat) (o : Option V) (vs : List Nat) (h : i ∈ vs) : L2.wipe (σ.set i o) vs = L2.wipe σ vs := by
  induction vs with
  | nil => cases h
  | cons v vs ih =>
    show (L2.wipe (σ.set i o) vs).set v none = (L2.wipe σ vs).set v none
    by_cases hv : i = v
    · subst hv
      have key : ∀ (vs : List Nat) (τ : L2.St), (L2.wipe (τ.set i o) vs).set i none = (L2.wipe τ vs).set i none := by
        intro vs
        induction vs with
        | nil => intro τ; show (τ.set i o).set i none = τ.set i none; rw [List.set_set]
        | cons w ws ih2 =>
          intro τ
          show ((L2.wipe (τ.set i o) ws).set w none).set i none = ((L2.wipe τ ws).set w none).set i none
          by_cases hw : w = i
          · subst hw; rw [List.set_set, List.set_set]; exact ih2 τ
          · rw [List.set_comm _ _ hw, List.set_comm _ _ hw, ih2 τ]
      exact key vs σ
    · rcases List.mem_cons.mp h with z | z
      · exact absurd z hv
      · rw [ih z]
theorem wipe_wipe (σ : L2.St) : ∀ vs : List Nat, L2.wipe (L2.wipe σ vs) vs = L2.wipe σ vs := by
  have key : ∀ (ws vs : List Nat), (∀ v ∈ ws, v ∈ vs) → L2.wipe (L2.wipe σ ws) vs = L2.wipe σ vs := by
    intro ws
    induction ws with
    | nil => intro vs _; rfl
    | cons w ws ih =>
      intro vs h
      show L2.wipe ((L2.wipe σ ws).set w none) vs = _
      rw [wipe_set _ _ _ _ (h w List.mem_cons_self), ih vs fun v hv => h v (List.mem_cons_of_mem _ hv)]
  exact fun vs => key vs vs fun _ h => h
end

/-- a target's reading -/
structure TgOk (X : Cx) (tg : Expr) (t : Tg) (g : TG) (vs : List Nat) : Prop where
  pg : PG X tg g
  to : ∀ {H : Hp} {φ : Ad} {S : Cells} {σ : L2.St} {ρ ρ' : Env} {v : V} {d : D} {Q : L2.St → Hp → Prop}, StOk X.K X.mg H φ S → REnv X.K X.mg H φ S σ ρ → Rep X.K X.mg H φ S v d → asg t d ρ = some ρ' →
    (∀ σ', REnv X.K X.mg H φ S σ' ρ' → (∀ ws : List Nat, (∀ i ∈ vs, i ∈ ws) → L2.wipe σ' ws = L2.wipe σ ws) → Q σ' H) → g v σ H Q
section
variable {X : Cx} {pos : Pos}
theorem tg_name {i : Nat} {x : Str} (hN : X.N.Nodup) (hi : X.N[i]? = some x) (hx : Loc X.env.scope x) (hf : X.fn x = true ∨ X.env.scope.names.lookup x = some .local) : TgOk X (.Name x pos) (.v i) (gName i) [i] where
  pg := pg_name hN hi hx hf
  to := fun {H φ S σ ρ ρ' v d Q} st re r e q => by
    cases e
    exact q _ (re.set r) fun ws hw => wipe_set σ i (some v) ws (hw i List.mem_cons_self)
/-- several names -/
structure TgsOk (X : Cx) (tgs : List Expr) (is : List Nat) (g : TGs) : Prop where
  pg : PGs X tgs g
  to : ∀ {H : Hp} {φ : Ad} {S : Cells} {σ : L2.St} {ρ ρ' : Env} {vs : List V} {ds : List D} {Q : L2.St → Hp → Prop}, StOk X.K X.mg H φ S → REnv X.K X.mg H φ S σ ρ → Repl X.K X.mg H φ S vs ds → asgs is ds ρ = some ρ' →
    (∀ σ', REnv X.K X.mg H φ S σ' ρ' → (∀ ws : List Nat, (∀ i ∈ is, i ∈ ws) → L2.wipe σ' ws = L2.wipe σ ws) → Q σ' H) → g vs σ H Q
theorem tgs_nil : TgsOk X [] [] gNil where
  pg := pgs_nil
  to := fun {H φ S σ ρ ρ' vs ds Q} st re r e q => by
    cases r with
    | nil => cases e; exact ⟨rfl, q _ re fun _ _ => rfl⟩
    | cons _ _ => cases e
theorem tgs_cons {e : Expr} {es : List Expr} {i : Nat} {is : List Nat} {g : TG} {gs : TGs} (h1 : TgOk X e (.v i) g [i]) (h2 : TgsOk X es is gs) (hs : (assignEach (e :: es) X.env).map (·.2) = assign e X.env :: (assignEach es X.env).map (·.2)) : TgsOk X (e :: es) (i :: is) (gCons g gs) where
  pg := pgs_cons h1.pg h2.pg hs
  to := fun {H φ S σ ρ ρ' vs ds Q} st re r e q => by
    cases r with
    | nil => cases e
    | @cons v vs d ds r rr =>
      refine ⟨v, vs, rfl, h1.to st re r (show asg (.v i) d ρ = some (ρ.set i (some d)) from rfl) fun σ1 re1 w1 => ?_⟩
      exact h2.to st re1 rr e fun σ2 re2 w2 => q σ2 re2 fun ws hw => (w2 ws fun j hj => hw j (List.mem_cons_of_mem _ hj)).trans (w1 ws fun j hj => hw j (by rw [List.mem_singleton] at hj; subst hj; exact List.mem_cons_self))
theorem Dats.repl {K : PySem.W.Frag} {mg : Str → Option Value} {H : Hp} {φ : Ad} {S : Cells} : ∀ {vs : List V} {ds : List D}, Dats K mg H (Mu φ S) vs ds → Repl K mg H φ S vs ds
  | _, [], h => by cases h; exact .nil
  | _, _ :: _, h => by cases h with | cons a b => exact .cons (.dat a) (Dats.repl b)
theorem tg_tup {es : List Expr} {kk : Nat} {is : List Nat} {gs : TGs} (hc : X.calm = true) (h : TgsOk X es is gs) (hl : (assignEach es X.env).length = is.length) (hst : (assignEach es X.env).findIdx? (·.1) = none) : TgOk X (.Tuple es kk pos) (.tup is) (gTup X.K is.length gs) is where
  pg := pg_tup hc h.pg hl hst
  to := fun {H φ S σ ρ ρ' v d Q} st re r e q => by
    cases d <;> try (cases e; done)
    case tup ds =>
      have e : asgs is ds ρ = some ρ' := e
      obtain ⟨a, vs, e1, e2, e3⟩ := (Vw.dat (by cases r with | dat z => exact z) : Vw X.K X.mg H φ S v (.tup ds)).tup
      have len : ∀ (is : List Nat) (ds : List D) (ρ : Env), asgs is ds ρ = some ρ' → ds.length = is.length := by
        intro is
        induction is with
        | nil => intro ds ρ h; cases ds with | nil => rfl | cons _ _ => cases h
        | cons i is ih => intro ds ρ h; cases ds with | nil => cases h | cons d ds => simp [ih ds _ h]
      exact ⟨a, vs, e1, e2, by rw [e3.length]; exact len is ds ρ e, h.to st re e3.repl e q⟩
end
end VS

/-! VS, part L: comprehensions. -/
namespace VS
open PySem PySem.Spec L2 PyProof.Rows

/-- tests of a comprehension -/
structure TsOk (X : Cx) (ifs : List Expr) (tt : TT) (f : Env → Cells → R Bool) : Prop where
  pt : PTs X ifs tt
  to : ∀ {H : Hp} {φ : Ad} {S S1 : Cells} {σ : L2.St} {ρ : Env} {t : Bool} {Q : Bool → Hp → Prop}, StOk X.K X.mg H φ S → REnv X.K X.mg H φ S σ ρ → f ρ S = .ok t S1 →
    (∀ H' φ', StOk X.K X.mg H' φ' (S1.take S.length) → Keep H φ S H' φ' (S1.take S.length) → Q t H') → tt σ H Q
section
variable {X : Cx} {k : Nat} {Φ : CallF} {fs bs : List Str} {pos : Pos}
theorem ts_nil : TsOk X [] tYes (fun _ S => .ok true S) where
  pt := pts_nil
  to := fun {H φ S S1 σ ρ t Q} st re e q => by
    cases e
    have := q H φ (by rw [List.take_length]; exact st) (by rw [List.take_length]; exact Keep.refl _ _ _)
    exact this
theorem ts_one {c : Expr} {f : Env → Cells → R D} (h : PT X c (TTv X.K X.mg f)) : TsOk X [c] (TTv X.K X.mg f) (fun ρ S => (f ρ S).bind fun d S => match truth S d with
    | some true => .ok true S
    | some false => .ok false S
    | none => .stuck) where
  pt := pts_one h
  to := fun {H φ S S1 σ ρ t Q} st re e q => by
    refine ⟨φ, ρ, S, st, re, ?_⟩
    cases ef : f ρ S with
    | exn x S2 => rw [ef] at e; cases e
    | stuck => rw [ef] at e; cases e
    | ok d S2 =>
      rw [ef] at e
      simp only [R.bind] at e
      rw [tst]
      cases et : truth S2 d with
      | none => rw [et] at e; cases e
      | some b =>
        rw [et] at e
        have e2 : t = b ∧ S1 = S2 := by cases b <;> (cases e; exact ⟨rfl, rfl⟩)
        obtain ⟨rfl, rfl⟩ := e2
        intro v H' φ' st' r' k'
        exact ⟨t, rep_bl r', q H' φ' st' k'⟩
end

section
variable {K : PySem.W.Frag} {mg : Str → Option Value} {H : Hp} {φ : Ad} {S : Cells}
theorem StOk.nowr (st : StOk K mg H φ S) {D : Addr} (h : D ∈ φ.bs) : ¬ Wr φ S D := fun ⟨n, c, h1, _, _⟩ => (st.ex D h).1 (mem_of_get h1)
/-- a new thing, kept to oneself -/
theorem ban_new (st : StOk K mg H φ S) {D : Addr} {o : HO} (hD : H D = none) : StOk K mg (upd H D o) ⟨φ.cs, D :: φ.bs⟩ S ∧ Keep0 H φ S (upd H D o) ⟨φ.cs, D :: φ.bs⟩ S := by
  have mu : ∀ a, Mu ⟨φ.cs, D :: φ.bs⟩ S a → a = D ∨ Mu φ S a := fun a z => by
    rcases z with z | z
    · exact .inr (.inl z)
    · rcases List.mem_cons.mp z with z | z
      · exact .inl z
      · exact .inr (.inr z)
  have sy : Stay H (Mu φ S) (upd H D o) (Mu ⟨φ.cs, D :: φ.bs⟩ S) := Stay.new hD mu
  have ne : ∀ a, H a ≠ none → a ≠ D := fun a h z => by subst z; exact h hD
  have th : ∀ a, H a ≠ none → upd H D o a ≠ none := fun a h => by rw [upd_ne (ne a h)]; exact h
  refine ⟨⟨st.len, st.nd, fun b hb => ?_, fun n a c h1 h2 => ?_⟩, ⟨fun _ _ h => h, fun a h m => (mu a m).elim (fun z => absurd z (ne a h)) id, fun _ _ m => m, fun a u e _ => by rw [upd_ne (ne_of_none e hD)]; exact e, th⟩⟩
  · rcases List.mem_cons.mp hb with z | z
    · subst z; exact ⟨fresh_not st hD, by rw [upd_same]; exact fun q => nomatch q⟩
    · exact ⟨(st.ex b z).1, th b (st.ex b z).2⟩
  · obtain ⟨es, ws, e, h, q⟩ := st.at_ n a c h1 h2
    exact ⟨es, ws, e, by rw [upd_ne (ne_of_none h hD)]; exact h, q.stay sy⟩
/-- it is written -/
theorem ban_write (st : StOk K mg H φ S) {D : Addr} {o : HO} (hD : D ∈ φ.bs) : StOk K mg (upd H D o) φ S ∧ Stay H (Mu φ S) (upd H D o) (Mu φ S) := by
  have ne : ∀ a, ¬ Mu φ S a → a ≠ D := fun a h z => h (.inr (by rw [z]; exact hD))
  have sy : Stay H (Mu φ S) (upd H D o) (Mu φ S) := ⟨fun a u e n => by rw [upd_ne (ne a n)]; exact e, fun _ _ m => m⟩
  have th : ∀ a, H a ≠ none → upd H D o a ≠ none := fun a h => by
    by_cases z : a = D
    · subst z; rw [upd_same]; exact fun q => nomatch q
    · rw [upd_ne z]; exact h
  refine ⟨⟨st.len, st.nd, fun b hb => ⟨(st.ex b hb).1, th b (st.ex b hb).2⟩, fun n a c h1 h2 => ?_⟩, sy⟩
  obtain ⟨es, ws, e, h, q⟩ := st.at_ n a c h1 h2
  refine ⟨es, ws, e, ?_, q.stay sy⟩
  rw [upd_ne fun z => (st.ex D hD).1 (by rw [← z]; exact mem_of_get h1)]
  exact h
/-- it becomes a cell -/
theorem ban_cell (st : StOk K mg H φ S) {D : Addr} {bs0 : List Addr} {vs : List V} {ds : List VS.D} (hb : φ.bs = D :: bs0) (hD : H D = some (.lst vs)) (r : Dats K mg H (Mu φ S) vs ds) :
    StOk K mg H ⟨φ.cs ++ [D], bs0.filter (fun b => b ≠ D)⟩ (S ++ [⟨.mu, .lst ds⟩]) := by
  have nD : D ∉ φ.cs := (st.ex D (by rw [hb]; exact List.mem_cons_self)).1
  have split : ∀ {i : Nat} {a : Addr} {c : Cell}, (φ.cs ++ [D])[i]? = some a → (S ++ [⟨.mu, .lst ds⟩])[i]? = some c → (φ.cs[i]? = some a ∧ S[i]? = some c) ∨ (a = D ∧ c = ⟨.mu, .lst ds⟩) := by
    intro i a c h1 h2
    by_cases hi : i < φ.cs.length
    · rw [List.getElem?_append_left hi] at h1
      rw [List.getElem?_append_left (by rw [← st.len]; exact hi)] at h2
      exact .inl ⟨h1, h2⟩
    · rw [List.getElem?_append_right (by omega)] at h1
      rw [List.getElem?_append_right (by rw [← st.len]; omega), ← st.len] at h2
      have hz : i - φ.cs.length = 0 := by
        by_cases z : i - φ.cs.length = 0
        · exact z
        · rw [List.getElem?_eq_none (by simp; omega)] at h1; cases h1
      rw [hz] at h1 h2
      simp at h1 h2
      exact .inr ⟨h1.symm, h2.symm⟩
  have mu : ∀ a, Mu ⟨φ.cs ++ [D], bs0.filter (fun b => b ≠ D)⟩ (S ++ [⟨.mu, .lst ds⟩]) a → Mu φ S a := fun a z => by
    rcases z with ⟨i, c, h1, h2, h3⟩ | z
    · rcases split h1 h2 with ⟨q1, q2⟩ | ⟨q1, _⟩
      · exact .inl ⟨i, c, q1, q2, h3⟩
      · exact .inr (by rw [hb, q1]; exact List.mem_cons_self)
    · exact .inr (by rw [hb]; exact List.mem_cons_of_mem _ (List.mem_filter.mp z).1)
  refine ⟨by simp [st.len], ?_, fun b hb' => ⟨fun z => ?_, (st.ex b (by rw [hb]; exact List.mem_cons_of_mem _ (List.mem_filter.mp hb').1)).2⟩, fun n a c h1 h2 => ?_⟩
  · show (φ.cs ++ [D]).Nodup
    rw [List.nodup_append]
    refine ⟨st.nd, (by simp), fun x hx y hy e => ?_⟩
    rw [List.mem_singleton] at hy
    subst hy; subst e
    exact nD hx
  · obtain ⟨q1, q2⟩ := List.mem_filter.mp hb'
    rcases List.mem_append.mp (show b ∈ φ.cs ++ [D] from z) with z | z
    · exact (st.ex b (by rw [hb]; exact List.mem_cons_of_mem _ q1)).1 z
    · rw [List.mem_singleton] at z
      simp [z] at q2
  · rcases split h1 h2 with ⟨q1, q2⟩ | ⟨q1, q2⟩
    · obtain ⟨es, ws, e, h, q⟩ := st.at_ n a c q1 q2
      exact ⟨es, ws, e, h, q.stay (Stay.mu_le mu)⟩
    · subst q1; subst q2
      exact ⟨ds, vs, rfl, hD, r.stay (Stay.mu_le mu)⟩

/-- the walked cell is let go -/
theorem free_ok {H0 : Hp} {φ0 : Ad} {S0 S' : Cells} {lk : Option Nat} (st : StOk K mg H φ S) (k : Keep0 H0 φ0 S0 H φ S) (hl : ∀ m, lk = some m → m < S0.length ∧ ∃ a, φ0.cs[m]? = some a ∧ Wr φ0 S0 a) (h : free lk S = some S') :
    StOk K mg H φ S' ∧ Keep0 H0 φ0 S0 H φ S' ∧ S'.length = S.length ∧ (∀ a, Mu φ S' a → Mu φ S a) := by
  cases lk with
  | none => cases h; exact ⟨st, k, rfl, fun _ m => m⟩
  | some m =>
    unfold free at h
    simp only at h
    split at h
    · rename_i c hc
      cases h
      obtain ⟨hm, a, ha, wa⟩ := hl m rfl
      have ha' := k.pre m a ha
      obtain ⟨s2, mu2⟩ := relock (l := .mu) st ha' hc (fun q => nomatch q)
      refine ⟨s2, ⟨k.pre, fun b hb z => k.mu b hb (mu2 b z), fun b hb ⟨i, c', h1, h2, h3⟩ => ?_, k.frame, k.there⟩, by simp, mu2⟩
      by_cases hi : m = i
      · subst hi
        rw [ha'] at h1; cases h1
        exact wa
      · rw [List.getElem?_set_ne hi] at h2
        exact k.wr b hb ⟨i, c', h1, h2, h3⟩
    · cases h
end

section
variable {X : Cx} {k : Nat} {Φ : CallF} {fs bs : List Str} {pos : Pos}
/-- one turn of a comprehension, by the interpreter -/
def lcF (t : Tg) (w : List Nat) (fT : Env → Cells → R Bool) (fE : Env → Cells → R D) (ρ : Env) (x : D) (S : Cells) : R (List D) :=
  match asg t x (wipeE ρ w) with
  | some ρ => ((fT ρ S).only).bind fun t S1 => if t then keep S.length ((fE ρ (S1.take S.length)).bind frz) else .ok [] (S1.take S.length)
  | none => .stuck
theorem keep_ok {n : Nat} {r : R D} {ys : List D} {S' : Cells} (h : keep n r = .ok ys S') : ∃ d S, r = .ok d S ∧ ys = [d] ∧ S' = S.take n := by
  cases r with
  | ok d S => cases h; exact ⟨d, S, rfl, rfl, rfl⟩
  | exn x S => cases h
  | stuck => cases h
theorem bind_ok {α β : Type} {r : R α} {f : α → Cells → R β} {b : β} {S : Cells} (h : r.bind f = .ok b S) : ∃ a S1, r = .ok a S1 ∧ f a S1 = .ok b S := by
  cases r with
  | ok a S1 => exact ⟨a, S1, rfl, h⟩
  | exn x S1 => cases h
  | stuck => cases h
theorem only_ok {α : Type} {r : R α} {a : α} {S : Cells} (h : r.only = .ok a S) : r = .ok a S := by
  cases r with
  | ok b S1 => exact h
  | exn x S1 => cases h
  | stuck => cases h
/-- the turns' reading -/
theorem lc_loop {J : L2.It} {H1 : Hp} {φ1 : Ad} {S1 Se : Cells} {σ : L2.St} {ρ : Env} {ds total : List D} {g : TG} {t : Tg} {tt : TT} {te : TE} {w vt : List Nat} {fT : Env → Cells → R Bool} {fE : Env → Cells → R D} {Qd : Hp → Prop} {D : Addr}
    (st1 : StOk X.K X.mg H1 φ1 S1) (re : REnv X.K X.mg H1 φ1 S1 σ ρ) (wk : WOk X.K X.mg J H1 φ1 S1 ds) (hv : ∀ i ∈ vt, i ∈ w)
    (tg : ∀ {H : Hp} {φ : Ad} {S : Cells} {σ : L2.St} {ρ ρ' : Env} {v : V} {d : VS.D} {Q : L2.St → Hp → Prop}, StOk X.K X.mg H φ S → REnv X.K X.mg H φ S σ ρ → Rep X.K X.mg H φ S v d → asg t d ρ = some ρ' →
      (∀ σ', REnv X.K X.mg H φ S σ' ρ' → (∀ ws : List Nat, (∀ i ∈ vt, i ∈ ws) → L2.wipe σ' ws = L2.wipe σ ws) → Q σ' H) → g v σ H Q)
    (ts : ∀ {H : Hp} {φ : Ad} {S S1 : Cells} {σ : L2.St} {ρ : Env} {t : Bool} {Q : Bool → Hp → Prop}, StOk X.K X.mg H φ S → REnv X.K X.mg H φ S σ ρ → fT ρ S = .ok t S1 →
      (∀ H' φ', StOk X.K X.mg H' φ' (S1.take S.length) → Keep H φ S H' φ' (S1.take S.length) → Q t H') → tt σ H Q)
    (el : ∀ {σ : L2.St} {H : Hp} {Q : VK}, TEv X.K X.mg fE σ H Q → te σ H Q)
    (tot : turns (lcF t w fT fE ρ) ds S1 = .ok total Se) (hline : total.length ≤ line) (hD : H1 D = none)
    (hd : ∀ H φ vs, StOk X.K X.mg H φ Se → Keep0 H1 φ1 S1 H φ Se → φ.bs = D :: φ1.bs → Se.length = S1.length → H D = some (.lst vs) → Dats X.K X.mg H (Mu φ Se) vs total → Qd H) :
    ∃ W : Nat → Nat → Hp → Prop, (∃ m, W 0 m (upd H1 D (.lst []))) ∧ ∀ i m H, W i m H →
      (J.stop i H ∧ Qd H) ∨ (J.go i H ∧ ∃ Nx : Hp → Prop, (∀ H', Nx H' → ∃ m', m' < m ∧ W (i + 1) m' H') ∧ ∀ x H', J.yld i H x H' → g x (L2.wipe σ w) H' fun σ2 H2 => L2.wipe σ2 w = L2.wipe σ w ∧ tt σ2 H2 fun b H3 =>
        if b = true then te σ2 H3 fun y H4 => ∃ acc, H4 D = some (.lst acc) ∧ acc.length < sizeLine ∧ Nx (upd H4 D (.lst (acc ++ [y]))) else Nx H3) := by
  obtain ⟨G, Y, wl, stay, give⟩ := wk
  have hb := ban_new (o := .lst []) st1 hD
  refine lc_it wl (fun i H => ∃ φi Si accv acc rest, StOk X.K X.mg H φi Si ∧ Keep0 H1 φ1 S1 H φi Si ∧ φi.bs = D :: φ1.bs ∧ Si.length = S1.length ∧ H D = some (.lst accv) ∧ Dats X.K X.mg H (Mu φi Si) accv acc ∧
    turns (lcF t w fT fE ρ) (ds.drop i) Si = .ok rest Se ∧ total = acc ++ rest) ?_ ?_ ?_ ?_
  · exact ⟨_, S1, [], [], total, hb.1, hb.2, rfl, rfl, upd_same, .nil, tot, rfl⟩
  · rintro i H _ ⟨φi, Si, accv, acc, rest, st, k0, _⟩
    exact stay H φi Si k0
  · rintro i x H H' hi ⟨φi, Si, accv, acc, rest, st, k0, ebs, esz, eD, da, et, etot⟩ y
    obtain ⟨d, ed, st', dx, kx, same⟩ := give i H φi Si x H' hi st k0 y
    have hdrop : ds.drop i = d :: ds.drop (i + 1) := by
      rw [List.drop_eq_getElem_cons hi]
      congr 1
      rw [List.getElem?_eq_getElem hi] at ed
      exact Option.some.inj ed
    rw [hdrop] at et
    obtain ⟨ys, S2, e1, e2⟩ := bind_ok et
    obtain ⟨zs, S3, e3, e4⟩ := bind_ok e2
    cases e4
    unfold lcF at e1
    split at e1
    · rename_i ρ1 easg
      obtain ⟨b, S4, e5, e6⟩ := bind_ok e1
      have e5 := only_ok e5
      have re' : REnv X.K X.mg H' φi Si (L2.wipe σ w) (wipeE ρ w) := ((re.keep0 k0).keep kx).wipe w
      have eD' : H' D = some (.lst accv) := by rw [same D (some_ne eD)]; exact eD
      refine tg st' re' (.dat dx) easg fun σ2 re2 w2 => ⟨by rw [w2 w hv, wipe_wipe], ts st' re2 e5 fun H3 φ3 st3 k3 => ?_⟩
      have memD : D ∈ φ3.bs := by rw [k3.bs, ebs]; exact List.mem_cons_self
      have da3 := (da.stay kx.stay).stay k3.stay
      have hD3 : H3 D = some (.lst accv) := k3.frame D _ eD' (st'.nowr (by rw [ebs]; exact List.mem_cons_self))
      have len3 : (S4.take Si.length).length = Si.length := (take_len st' st3 k3).1
      have k03 : Keep0 H1 φ1 S1 H3 φ3 (S4.take Si.length) := (k0.trans kx.k0).trans k3.k0
      cases b with
      | false =>
        rw [if_neg Bool.false_ne_true] at e6 ⊢
        cases e6
        exact ⟨φ3, _, accv, acc, zs, st3, k03, by rw [k3.bs, ebs], by rw [len3, esz], hD3, da3, e3, etot⟩
      | true =>
        rw [if_pos rfl] at e6 ⊢
        obtain ⟨e', S6, e7, e8, e9⟩ := keep_ok e6
        obtain ⟨e0, S5, e10, e11⟩ := bind_ok e7
        subst e8 e9
        refine el ⟨φ3, ρ1, _, st3, re2.keep k3, ?_⟩
        rw [e10]
        intro u H4 φ4 st4 r4 k4
        obtain ⟨st5, du, k5⟩ := frz_ok st4 r4 e11
        have k45 := k4.trans k5
        have hD4 : H4 D = some (.lst accv) := k45.frame D _ hD3 (st3.nowr memD)
        have nlen : Si.length = φ3.cs.length := by rw [st3.len, len3]
        have st6 := st5.take Si.length
        have k6 : Keep H3 φ3 (S4.take Si.length) H4 (φ4.take Si.length) (S6.take Si.length) := k45.take nlen
        have da6 := da3.stay k6.stay
        have du6 := du.le (M' := Mu (φ4.take Si.length) (S6.take Si.length)) fun a m => m.take
        have mem6 : D ∈ (φ4.take Si.length).bs := by rw [k6.bs]; exact memD
        obtain ⟨st7, sy7⟩ := ban_write (o := .lst (accv ++ [u])) st6 mem6
        have len6 := keep_len st3 st6 k6
        refine ⟨accv, hD4, ?_, φ4.take Si.length, S6.take Si.length, accv ++ [u], acc ++ [e'], zs, st7, ?_, by rw [k6.bs, k3.bs, ebs], ?_, upd_same, (da6.append (.cons du6 .nil)).stay sy7, e3, by rw [etot]; simp⟩
        · have e12 := da.length
          rw [e12]
          have : total.length = acc.length + 1 + zs.length := by rw [etot]; simp; omega
          have hl := hline
          rw [← line_eq]
          omega
        · have kk := k03.trans k6.k0
          have neD : ∀ a, H1 a ≠ none → a ≠ D := fun a h z => by subst z; exact h hD
          exact ⟨kk.pre, kk.mu, kk.wr, fun a o h n => by rw [upd_ne (neD a (some_ne h))]; exact kk.frame a o h n, fun a h => by rw [upd_ne (neD a h)]; exact kk.there a h⟩
        · have h1 : (S6.take Si.length).length ≤ Si.length := List.length_take_le _ _
          rw [len3] at len6
          omega
    · cases e1
  · rintro H ⟨φi, Si, accv, acc, rest, st, k0, ebs, esz, eD, da, et, etot⟩
    rw [List.drop_length] at et
    cases et
    rw [List.append_nil] at etot
    subst etot
    exact hd H φi accv st k0 ebs esz eD da

/-- a comprehension, by the interpreter -/
def lcD (fI : Env → Cells → R Walked) (t : Tg) (w : List Nat) (fT : Env → Cells → R Bool) (fE : Env → Cells → R D) (ρ : Env) (S : Cells) : R D :=
  (fI ρ S).bind fun wk S' => comp S.length wk (lcF t w fT fE ρ) S'
theorem lc_read {g : TG} {t : Tg} {tt : TT} {te : TE} {w vt : List Nat} {fI : Env → Cells → R Walked} {fT : Env → Cells → R Bool} {fE : Env → Cells → R D} (hv : ∀ i ∈ vt, i ∈ w)
    (tg : ∀ {H : Hp} {φ : Ad} {S : Cells} {σ : L2.St} {ρ ρ' : Env} {v : V} {d : VS.D} {Q : L2.St → Hp → Prop}, StOk X.K X.mg H φ S → REnv X.K X.mg H φ S σ ρ → Rep X.K X.mg H φ S v d → asg t d ρ = some ρ' →
      (∀ σ', REnv X.K X.mg H φ S σ' ρ' → (∀ ws : List Nat, (∀ i ∈ vt, i ∈ ws) → L2.wipe σ' ws = L2.wipe σ ws) → Q σ' H) → g v σ H Q)
    (ts : ∀ {H : Hp} {φ : Ad} {S S1 : Cells} {σ : L2.St} {ρ : Env} {t : Bool} {Q : Bool → Hp → Prop}, StOk X.K X.mg H φ S → REnv X.K X.mg H φ S σ ρ → fT ρ S = .ok t S1 →
      (∀ H' φ', StOk X.K X.mg H' φ' (S1.take S.length) → Keep H φ S H' φ' (S1.take S.length) → Q t H') → tt σ H Q)
    (el : ∀ {σ : L2.St} {H : Hp} {Q : VK}, TEv X.K X.mg fE σ H Q → te σ H Q) (σ : L2.St) (H : Hp) (Q : VK) (h : TEv X.K X.mg (lcD fI t w fT fE) σ H Q) : tLc (TIv X.K X.mg fI) g tt te w σ H Q := by
  obtain ⟨φ, ρ, S, st, re, q⟩ := h
  refine ⟨φ, ρ, S, st, re, ?_⟩
  have q : Ans X.K X.mg ((fI ρ S).bind fun wk S' => comp S.length wk (lcF t w fT fE ρ) S') H φ S Q := q
  cases ei : fI ρ S with
  | exn x S' => rw [ei] at q; exact q.elim
  | stuck => rw [ei] at q; exact q.elim
  | ok wk S' =>
    rw [ei] at q
    simp only [R.bind] at q
    intro J H1 φ1 st1 k1 l1 lk1 wok D hD
    unfold comp at q
    cases et : turns (lcF t w fT fE ρ) wk.1 S' with
    | exn x Se => rw [et] at q; exact q.elim
    | stuck => rw [et] at q; exact q.elim
    | ok total Se =>
      rw [et] at q
      simp only [R.bind] at q
      cases ef : free wk.2 Se with
      | none => rw [ef] at q; exact q.elim
      | some Sf =>
        rw [ef] at q
        obtain ⟨c, q⟩ := need_ans q
        refine lc_loop (D := D) st1 (re.keep k1) wok hv tg ts el et (of_decide_eq_true c) hD fun Hn φn vs stn kn ebs esz eD da => ?_
        obtain ⟨stf, kf, lf, muf⟩ := free_ok (lk := wk.2) stn (k1.k0.trans kn) lk1 ef
        have lS : Sf.length = S.length := by rw [lf, esz, l1]
        rw [take_full lS] at q
        have bs1 : φ1.bs = φ.bs := k1.bs
        have nb : φ1.bs.filter (fun b => b ≠ D) = φ.bs := by
          rw [bs1]
          refine List.filter_eq_self.mpr fun b hb => ?_
          have := (st1.ex b (by rw [bs1]; exact hb)).2
          simp only [ne_eq, decide_not, Bool.not_eq_eq_eq_not, Bool.not_true, decide_eq_false_iff_not]
          intro z
          subst z
          exact this hD
        have fin := ban_cell stf ebs eD (da.stay (Stay.mu_le muf))
        rw [nb] at fin
        have hH : H D = none := by
          cases e : H D with
          | none => rfl
          | some o => exact absurd hD (k1.there D (some_ne e))
        have neD : ∀ a, H a ≠ none → a ≠ D := fun a h z => by subst z; exact h hH
        have lφ : φn.cs.length = S.length := by rw [stf.len, lS]
        refine q (.ref D) Hn _ fin (.ref ?_) ⟨fun n a e => ?_, rfl, fun a h m => ?_, fun a h m => ?_, kf.frame, kf.there⟩
        · show (φn.cs ++ [D])[Sf.length]? = some D
          rw [lS, ← lφ, List.getElem?_append_right (Nat.le_refl _)]; simp
        · show (φn.cs ++ [D])[n]? = some a
          have e' := kf.pre n a e
          rw [List.getElem?_append_left (List.getElem?_eq_some_iff.mp e').1]
          exact e'
        · rcases m with ⟨i, cc, h1, h2, h3⟩ | m
          · have h1 : (φn.cs ++ [D])[i]? = some a := h1
            by_cases hi : i < φn.cs.length
            · rw [List.getElem?_append_left hi] at h1
              rw [List.getElem?_append_left (by rw [← stf.len]; exact hi)] at h2
              exact kf.mu a h (.inl ⟨i, cc, h1, h2, h3⟩)
            · rw [List.getElem?_append_right (by omega)] at h1
              have : a = D := by
                have := List.mem_of_getElem? h1
                simpa using this
              exact absurd this (neD a h)
          · exact .inr m
        · obtain ⟨i, cc, h1, h2, h3⟩ := m
          have h1 : (φn.cs ++ [D])[i]? = some a := h1
          by_cases hi : i < φn.cs.length
          · rw [List.getElem?_append_left hi] at h1
            rw [List.getElem?_append_left (by rw [← stf.len]; exact hi)] at h2
            exact kf.wr a h ⟨i, cc, h1, h2, h3⟩
          · rw [List.getElem?_append_right (by omega)] at h1
            have : a = D := by
              have := List.mem_of_getElem? h1
              simpa using this
            exact absurd this (neD a h)
/-- a comprehension of one clause -/
structure LcOk (X : Cx) (elt tg iter : Expr) (ifs : List Expr) (scope : Scope) (own : List (Str × Nat)) (t : Tg) (fI : Env → Cells → R Walked) (fT : Env → Cells → R Bool) (fE : Env → Cells → R D) : Prop where
  it : PI X tg iter (TIv X.K X.mg fI)
  blk : BlkOk X.N X.env.scope scope own
  set : ∀ x, foldedSetIterable iter X.env x = pure x
  tgs : ∃ g vt, (∀ i ∈ vt, i ∈ own.map (·.2)) ∧ ∀ (s : Shared) (H : Hp) (C : Addr) (cl : List (Str × Addr)) (fp : List Addr), TgOk (X.blk s H scope (compEnvC scope cl C X.env) fp) tg t g vt
  ts : ∃ tt, ∀ (s : Shared) (H : Hp) (C : Addr) (cl : List (Str × Addr)) (fp : List Addr), TsOk (X.blk s H scope (compEnvC scope cl C X.env) fp) ifs tt fT
  el : ∀ (s : Shared) (H : Hp) (C : Addr) (cl : List (Str × Addr)) (fp : List Addr), PE (X.blk s H scope (compEnvC scope cl C X.env) fp) elt (TEv X.K X.mg fE)
theorem se_lc (hc : X.calm = true) (hN : X.N.Nodup) {elt tg iter : Expr} {ifs : List Expr} {scope : Scope} {own : List (Str × Nat)} {t : Tg} {fI : Env → Cells → R Walked} {fT : Env → Cells → R Bool} {fE : Env → Cells → R D} (L : LcOk X elt tg iter ifs scope own t fI fT fE) :
    PE X (.ListComp elt [⟨tg, iter, ifs, 0⟩] scope pos) (TEv X.K X.mg (lcD fI t (own.map (·.2)) fT fE)) := by
  obtain ⟨g, vt, hv, tk⟩ := L.tgs
  obtain ⟨tt, tsk⟩ := L.ts
  refine (pe_lc hc hN L.it L.blk (fun s H C cl fp => (tk s H C cl fp).pg) (fun s H C cl fp => (tsk s H C cl fp).pt) L.el (hs := L.set)).imp fun σ H Q h => ?_
  exact lc_read hv (fun {H φ S σ ρ ρ' v d Q} => (tk {} (fun _ => none) 0 [] []).to) (fun {H φ S S1 σ ρ t Q} => (tsk {} (fun _ => none) 0 [] []).to) (fun h => h) σ H Q h
end
end VS

/-! VS, part M: statements. -/
namespace VS
open PySem PySem.Spec L2 PyProof.Rows

section
variable (K : PySem.W.Frag) (mg : Str → Option Value)
/-- what is wanted behind a statement -/
def AnsS (r : FR) (H : Hp) (φ : Ad) (S : Cells) (D : Ends) : Prop :=
  match r with
  | .next ρ' S' => ∀ σ' H' φ', StOk K mg H' φ' S' → Keep H φ S H' φ' S' → REnv K mg H' φ' S' σ' ρ' → D.nx σ' H'
  | .brk ρ' S' => ∀ σ' H' φ', StOk K mg H' φ' S' → Keep H φ S H' φ' S' → REnv K mg H' φ' S' σ' ρ' → D.bk σ' H'
  | .cont ρ' S' => ∀ σ' H' φ', StOk K mg H' φ' S' → Keep H φ S H' φ' S' → REnv K mg H' φ' S' σ' ρ' → D.ct σ' H'
  | .ret d S' => ∀ v H' φ', StOk K mg H' φ' S' → Keep H φ S H' φ' S' → Rep K mg H' φ' S' v d → D.rt v H'
  | _ => False
def TSv (f : Env → Cells → FR) : TS := fun D σ H => ∃ φ ρ S, StOk K mg H φ S ∧ REnv K mg H φ S σ ρ ∧ AnsS K mg (f ρ S) H φ S D
end

section
variable {K : PySem.W.Frag} {mg : Str → Option Value} {H H' : Hp} {φ φ' : Ad} {S S' : Cells} {σ : L2.St} {ρ : Env}
theorem AnsS.later {r : FR} {D : Ends} (k : Keep H φ S H' φ' S') (h : AnsS K mg r H φ S D) : AnsS K mg r H' φ' S' D := by
  cases r with
  | next ρ2 S2 => exact fun σ2 H2 φ2 a b c => h σ2 H2 φ2 a (k.trans b) c
  | brk ρ2 S2 => exact fun σ2 H2 φ2 a b c => h σ2 H2 φ2 a (k.trans b) c
  | cont ρ2 S2 => exact fun σ2 H2 φ2 a b c => h σ2 H2 φ2 a (k.trans b) c
  | ret d S2 => exact fun v H2 φ2 a b c => h v H2 φ2 a (k.trans b) c
  | exn x ρ2 S2 => exact h
  | stuck => exact h
/-- an evaluation, then more -/
theorem toF_ans {r : R D} {g : D → Cells → FR} {E : Ends} (h : AnsS K mg (r.toF ρ g) H φ S E) :
    Ans K mg r H φ S fun v H1 => ∃ φ1 S1 d, StOk K mg H1 φ1 S1 ∧ Rep K mg H1 φ1 S1 v d ∧ Keep H φ S H1 φ1 S1 ∧ AnsS K mg (g d S1) H1 φ1 S1 E := by
  cases r with
  | ok d S1 => exact fun v H1 φ1 a b c => ⟨φ1, S1, d, a, b, c, AnsS.later c h⟩
  | exn x S' => exact h
  | stuck => exact h
theorem AnsS.here {E : Ends} (h : AnsS K mg (.next ρ S) H φ S E) (st : StOk K mg H φ S) (re : REnv K mg H φ S σ ρ) : E.nx σ H := h σ H φ st (Keep.refl _ _ _) re
theorem REnv.mu_le {S2 : Cells} (re : REnv K mg H φ S σ ρ) (m : ∀ a, Mu φ S2 a → Mu φ S a) : REnv K mg H φ S2 σ ρ :=
  ⟨re.len, fun i d e => let ⟨v, e1, r⟩ := re.at_ i d e; ⟨v, e1, by
    cases r with
    | dat z => exact .dat (z.stay (Stay.mu_le m))
    | ref z => exact .ref z⟩⟩
theorem Rep.mu_le {S2 : Cells} {v : V} {d : D} (r : Rep K mg H φ S v d) (m : ∀ a, Mu φ S2 a → Mu φ S a) : Rep K mg H φ S2 v d := by
  cases r with
  | dat z => exact .dat (z.stay (Stay.mu_le m))
  | ref z => exact .ref z
end

theorem _root_.L2.PS.imp {X : Cx} {e : Stmt} {t t' : TS} (h : PS X e t) (i : ∀ D σ H, t' D σ H → t D σ H) : PS X e t' := ⟨fun pins s σ H D I q => h.run pins s σ H D I (i D σ H q)⟩
theorem _root_.L2.PSs.imp {X : Cx} {e : List Stmt} {t t' : TS} (h : PSs X e t) (i : ∀ D σ H, t' D σ H → t D σ H) : PSs X e t' := ⟨fun pins s σ H D I q => h.run pins s σ H D I (i D σ H q)⟩

section
variable {X : Cx} {k : Nat} {Φ : CallF} {fs bs : List Str} {pos : Pos}
theorem ss_nil : PSs X [] (TSv X.K X.mg fun ρ S => .next ρ S) := pss_nil.imp fun D σ H ⟨φ, ρ, S, st, re, q⟩ => AnsS.here q st re
theorem ss_cons {st : Stmt} {rest : List Stmt} {f g : Env → Cells → FR} (h1 : PS X st (TSv X.K X.mg f)) (h2 : PSs X rest (TSv X.K X.mg g)) : PSs X (st :: rest) (TSv X.K X.mg fun ρ S => (f ρ S).thn g) :=
  (pss_cons h1 h2).imp fun D σ H ⟨φ, ρ, S, st, re, q⟩ => by
    refine ⟨φ, ρ, S, st, re, ?_⟩
    dsimp only at q
    revert q
    cases f ρ S with
    | next ρ1 S1 => exact fun q σ1 H1 φ1 s1 k1 r1 => ⟨φ1, ρ1, S1, s1, r1, AnsS.later k1 q⟩
    | brk ρ1 S1 => exact fun q => q
    | cont ρ1 S1 => exact fun q => q
    | ret d S1 => exact fun q => q
    | exn x ρ1 S1 => exact fun q => q
    | stuck => exact fun q => q
theorem ss_pass : PS X (.Pass pos) (TSv X.K X.mg fun ρ S => .next ρ S) := ps_pass.imp fun D σ H ⟨φ, ρ, S, st, re, q⟩ => AnsS.here q st re
theorem ss_brk : PS X (.Break pos) (TSv X.K X.mg fun ρ S => .brk ρ S) := ps_break.imp fun D σ H ⟨φ, ρ, S, st, re, q⟩ => q σ H φ st (Keep.refl _ _ _) re
theorem ss_cont : PS X (.Continue pos) (TSv X.K X.mg fun ρ S => .cont ρ S) := ps_continue.imp fun D σ H ⟨φ, ρ, S, st, re, q⟩ => q σ H φ st (Keep.refl _ _ _) re
theorem ss_never {st : Stmt} : PS X st (TSv X.K X.mg fun _ _ => .stuck) := ps_never.imp fun D σ H ⟨φ, ρ, S, st, re, q⟩ => q
theorem ss_retN : PS X (.Return none pos) (TSv X.K X.mg fun _ S => .ret .non S) := ps_retN.imp fun D σ H ⟨φ, ρ, S, st, re, q⟩ => q .non H φ st (Keep.refl _ _ _) (.dat .non)
theorem ss_ret {e : Expr} {f : Env → Cells → R D} (h : PE X e (TEv X.K X.mg f)) : PS X (.Return (some e) pos) (TSv X.K X.mg fun ρ S => (f ρ S).toF ρ fun d S => .ret d S) :=
  (ps_ret h).imp fun D σ H ⟨φ, ρ, S, st, re, q⟩ => ⟨φ, ρ, S, st, re, (toF_ans q).mono fun v H1 ⟨φ1, S1, d, s1, r1, k1, q1⟩ => q1 v H1 φ1 s1 (Keep.refl _ _ _) r1⟩
theorem ss_expr {e : Expr} {f : Env → Cells → R D} (h : PE X e (TEv X.K X.mg f)) (hs : swapsWith e none pos.line X.env = pure false) : PS X (.Expr e pos) (TSv X.K X.mg fun ρ S => (f ρ S).toF ρ fun _ S' => .next ρ (S'.take S.length)) :=
  (ps_expr h hs).imp fun D σ H ⟨φ, ρ, S, st, re, q⟩ => ⟨φ, ρ, S, st, re, by
    dsimp only at q
    cases e : f ρ S with
    | exn x S1 => rw [e] at q; exact q
    | stuck => rw [e] at q; exact q
    | ok d S1 =>
      rw [e] at q
      intro v H1 φ1 s1 r1 k1
      obtain ⟨s2, k2, m2⟩ := drop_keep st s1 k1
      exact q σ H1 _ s2 k2 (re.keep k2)⟩
/-- a target = a value -/
theorem ss_asg {tg e : Expr} {f : Env → Cells → R D} {t : Tg} {g : TG} {vs : List Nat} (h : PE X e (TEv X.K X.mg f)) (tk : TgOk X tg t g vs) (hs : swapsWithSole [tg] e pos.line X.env = pure false) (hw : swappedStores [tg] e X.env = pure none)
    (h1 : (assignEach [tg] X.env).map (·.2) = [assign tg X.env]) : PS X (.Assign [tg] e pos) (TSv X.K X.mg fun ρ S => (f ρ S).toF ρ fun d S => match asg t d ρ with | some ρ => .next ρ S | none => .stuck) :=
  (ps_asg h tk.pg hs hw h1).imp fun D σ H ⟨φ, ρ, S, st, re, q⟩ => ⟨φ, ρ, S, st, re, (toF_ans q).mono fun v H1 ⟨φ1, S1, d, s1, r1, k1, q1⟩ => by
    cases ea : asg t d ρ with
    | none => rw [ea] at q1; exact q1.elim
    | some ρ' =>
      rw [ea] at q1
      exact tk.to s1 (re.keep k1) r1 ea fun σ' re' _ => AnsS.here q1 s1 re'⟩
theorem ss_set (hN : X.N.Nodup) {i : Nat} {x : Str} {pos' : Pos} {e : Expr} {f : Env → Cells → R D} (hi : X.N[i]? = some x) (hx : Loc X.env.scope x) (hf : X.fn x = true ∨ X.env.scope.names.lookup x = some .local) (h : PE X e (TEv X.K X.mg f))
    (hs : swapsWith e (some (.Name x pos')) pos.line X.env = pure false) : PS X (.Assign [.Name x pos'] e pos) (TSv X.K X.mg fun ρ S => (f ρ S).toF ρ fun d S => .next (ρ.set i (some d)) S) :=
  (ps_set hN hi hx h hs hf).imp fun D σ H ⟨φ, ρ, S, st, re, q⟩ => ⟨φ, ρ, S, st, re, (toF_ans q).mono fun v H1 ⟨φ1, S1, d, s1, r1, k1, q1⟩ => AnsS.here (σ := σ.set i (some v)) q1 s1 ((re.keep k1).set r1)⟩
/-- o[i] = e -/
theorem ss_seti {o i e : Expr} {p2 : Pos} {fo fi f : Env → Cells → R D} (ho : PE X o (TEv X.K X.mg fo)) (hi : PE X i (TEv X.K X.mg fi)) (h : PE X e (TEv X.K X.mg f))
    (ha : ∀ v, assign (.Subscript o i p2) X.env v = (do
      let ov ← holding [v] (eval o X.env)
      let iv ← holding [v, ov] (eval i X.env)
      standAt p2
      holding [v, ov, iv] (setItem ov iv v)
      release [v, ov, iv] []))
    (hs : swapsWithSole [.Subscript o i p2] e pos.line X.env = pure false) (hw : swappedStores [.Subscript o i p2] e X.env = pure none)
    (h1 : (assignEach [.Subscript o i p2] X.env).map (·.2) = [assign (.Subscript o i p2) X.env]) :
    PS X (.Assign [.Subscript o i p2] e pos) (TSv X.K X.mg fun ρ S => (norm S.length ((f ρ S).bind fun d S => (fo ρ S).bind fun o S => (fi ρ S).bind fun i S => setV o i d S)).toF ρ fun _ S => .next ρ S) :=
  (ps_asg h (pg_sub ho hi set_list ha) hs hw h1).imp fun D σ H ⟨φ, ρ, S, st, re, q⟩ => by
    refine ⟨φ, ρ, S, st, re, ?_⟩
    have q2 := Ans.norm st (toF_ans q)
    refine (Ans.step q2).mono fun v H1 ⟨φ1, S1, d, s1, r1, k1, q3⟩ => ⟨φ1, ρ, S1, s1, re.keep k1, (Ans.step q3).mono fun ov H2 ⟨φ2, S2, o, s2, r2, k2, q4⟩ => ⟨φ2, ρ, S2, s2, (re.keep k1).keep k2, (Ans.step q4).mono fun iv H3 ⟨φ3, S3, i, s3, r3, k3, q5⟩ => ?_⟩⟩
    have re3 := ((re.keep k1).keep k2).keep k3
    have rd := (r1.keep k2).keep k3
    have ro := r2.keep k3
    unfold setV at q5
    cases i <;> try (exact q5.elim)
    case int i =>
      have ei := rep_int r3
      subst ei
      dsimp only at q5
      cases ef : frz d S3 with
      | exn x S4 => rw [ef] at q5; exact q5.elim
      | stuck => rw [ef] at q5; exact q5.elim
      | ok d' S4 =>
        rw [ef] at q5
        simp only [R.bind] at q5
        obtain ⟨s4, dv, k4⟩ := frz_ok s3 rd ef
        cases o with
        | ref m =>
          have ro4 := ro.keep k4
          cases ro4 with
          | dat z => cases z
          | @ref a _ z =>
            dsimp only at q5
            split at q5
            · rename_i xs hc
              obtain ⟨ds, vs, e1, e2, e3⟩ := s4.at_ m a _ z hc
              cases e1
              split at q5
              · rename_i j hj
                obtain ⟨s5, k5, _⟩ := cell_set (es := xs.set j d') s4 z hc (e3.set dv j)
                refine ⟨a, vs, i, j, rfl, rfl, e2, by rw [e3.length, ← atN_eq]; exact hj, ?_⟩
                obtain ⟨φ6, S6, d6, s6, r6, k6, q6⟩ := q5 .non _ φ3 s5 (.dat .non) (k4.trans k5)
                exact AnsS.here q6 s6 (re.keep k6)
              · exact q5.elim
            · exact q5.elim
        | _ => exact q5.elim
/-- if -/
theorem ss_if {c : Expr} {a b : List Stmt} {fc : Env → Cells → R D} {f g : Env → Cells → FR} (hc : PT X c (TTv X.K X.mg fc)) (ha : PSs X a (TSv X.K X.mg f)) (hb : PSs X b (TSv X.K X.mg g)) :
    PS X (.If c a b pos) (TSv X.K X.mg fun ρ S => (norm S.length ((fc ρ S).bind fun x S => truthR x S fun t => .ok (.bl t) S)).toF ρ fun d S => match d with
      | .bl true => f ρ S
      | .bl false => g ρ S
      | _ => .stuck) :=
  (ps_if hc ha hb).imp fun D σ H ⟨φ, ρ, S, st, re, q⟩ => ⟨φ, ρ, S, st, re, (toF_ans q).mono fun v H1 ⟨φ1, S1, d, s1, r1, k1, q1⟩ => by
    cases d <;> try (exact q1.elim)
    case bl t =>
      refine ⟨t, rep_bl r1, ?_⟩
      cases t with
      | true => exact ⟨φ1, ρ, S1, s1, re.keep k1, q1⟩
      | false => exact ⟨φ1, ρ, S1, s1, re.keep k1, q1⟩⟩
/-- while -/
theorem ss_while {c : Expr} {body : List Stmt} {fc : Env → Cells → R D} {f : Env → Cells → FR} {W : Nat} (hp : PassesOwn (model X.prog X.w) X.A X.env X.xe) (hc : PT X c (TTv X.K X.mg fc)) (hb : PSs X body (TSv X.K X.mg f)) :
    PS X (.While c body [] pos) (TSv X.K X.mg fun ρ S => whileT (fun ρ S => norm S.length ((fc ρ S).bind fun x S => truthR x S fun t => .ok (.bl t) S)) f W ρ S) :=
  (ps_while hp hc hb).imp fun D σ H ⟨φ, ρ, S, st, re, q⟩ => by
    refine ⟨fun m σ H => ∃ φ ρ S, StOk X.K X.mg H φ S ∧ REnv X.K X.mg H φ S σ ρ ∧ AnsS X.K X.mg (whileT (fun ρ S => norm S.length ((fc ρ S).bind fun x S => truthR x S fun t => .ok (.bl t) S)) f m ρ S) H φ S D, ⟨W, φ, ρ, S, st, re, q⟩, ?_⟩
    rintro m σ H ⟨φ, ρ, S, st, re, q⟩
    cases m with
    | zero => exact q.elim
    | succ m =>
      refine ⟨φ, ρ, S, st, re, (toF_ans (show AnsS X.K X.mg (R.toF ρ _ _) H φ S D from q)).mono fun v H1 ⟨φ1, S1, d, s1, r1, k1, q1⟩ => ?_⟩
      cases d <;> try (exact q1.elim)
      case bl t =>
        refine ⟨t, rep_bl r1, ?_⟩
        cases t with
        | false => exact AnsS.here q1 s1 (re.keep k1)
        | true =>
          rw [if_pos rfl]
          refine ⟨_, fun σ' H' w => ⟨m, Nat.lt_succ_self m, w⟩, φ1, ρ, S1, s1, re.keep k1, ?_⟩
          dsimp only at q1
          revert q1
          cases f ρ S1 with
          | next ρ2 S2 => exact fun q1 σ2 H2 φ2 s2 k2 re2 => ⟨φ2, ρ2, S2, s2, re2, AnsS.later k2 q1⟩
          | cont ρ2 S2 => exact fun q1 σ2 H2 φ2 s2 k2 re2 => ⟨φ2, ρ2, S2, s2, re2, AnsS.later k2 q1⟩
          | brk ρ2 S2 => exact fun q1 => q1
          | ret d S2 => exact fun q1 => q1
          | exn x ρ2 S2 => exact fun q1 => q1
          | stuck => exact fun q1 => q1
/-- the state behind a loop -/
theorem forE_next {H0 : Hp} {φ0 : Ad} {S0 : Cells} {H' : Hp} {φ' : Ad} {S' : Cells} {σ' : L2.St} {ρ' : Env} {o : Option Nat} {D : Ends} (lk : ∀ m, o = some m → m < S0.length ∧ ∃ a, φ0.cs[m]? = some a ∧ Wr φ0 S0 a)
    (st : StOk X.K X.mg H' φ' S') (k : Keep H0 φ0 S0 H' φ' S') (re : REnv X.K X.mg H' φ' S' σ' ρ') (q : AnsS X.K X.mg (match free o S' with | some S => .next ρ' S | none => .stuck) H0 φ0 S0 D) : D.nx σ' H' := by
  cases ef : free o S' with
  | none => rw [ef] at q; exact q.elim
  | some S2 =>
    rw [ef] at q
    obtain ⟨s2, k2, l2, m2⟩ := free_ok st k.k0 lk ef
    exact q σ' H' φ' s2 (k2.k k.bs) (re.mu_le m2)
theorem ss_for {tg iter : Expr} {body : List Stmt} {fi : Env → Cells → R Walked} {f : Env → Cells → FR} {t : Tg} {g : TG} {vs : List Nat} (hp : PassesOwn (model X.prog X.w) X.A X.env X.xe) (hc : X.calm = true) (hi : PI X tg iter (TIv X.K X.mg fi)) (tk : TgOk X tg t g vs)
    (hb : PSs X body (TSv X.K X.mg f)) (hs : ∀ x, foldedSetIterable iter X.env x = pure x) :
    PS X (.For tg iter body [] pos) (TSv X.K X.mg fun ρ S => (fi ρ S).toF ρ fun w S => forE w.2 (forT (fun x ρ S => match asg t x ρ with | some ρ => f ρ S | none => .stuck) w.1 ρ S)) :=
  (ps_for hp hc hi tk.pg hb hs).imp fun E σ H ⟨φ, ρ, S, st, re, q⟩ => by
    refine ⟨φ, ρ, S, st, re, ?_⟩
    dsimp only at q
    cases ei : fi ρ S with
    | exn x S1 => rw [ei] at q; exact q.elim
    | stuck => rw [ei] at q; exact q.elim
    | ok w S1 =>
      rw [ei] at q
      simp only [R.toF] at q
      intro J H1 φ1 s1 k1 l1 lk1 wok
      obtain ⟨G, Y, wl, stay, give⟩ := wok
      refine for_it wl (fun i σ Hi => ∃ φi ρi Si, StOk X.K X.mg Hi φi Si ∧ Keep H φ S Hi φi Si ∧ Keep H1 φ1 S1 Hi φi Si ∧ REnv X.K X.mg Hi φi Si σ ρi ∧
        AnsS X.K X.mg (forE w.2 (forT (fun x ρ S => match asg t x ρ with | some ρ => f ρ S | none => .stuck) (w.1.drop i) ρi Si)) H φ S E) ?_ ?_ ?_ ?_
      · exact ⟨φ1, ρ, S1, s1, k1, Keep.refl _ _ _, re.keep k1, q⟩
      · rintro i σ Hi hi ⟨φi, ρi, Si, si, _, k0, _⟩
        exact stay Hi φi Si k0.k0
      · rintro i x σ Hi Hi' hi ⟨φi, ρi, Si, si, ki, k0, rei, qi⟩ y
        obtain ⟨d, ed, s2, dx, k2, _⟩ := give i Hi φi Si x Hi' hi si k0.k0 y
        have hdrop : w.1.drop i = d :: w.1.drop (i + 1) := by
          rw [List.drop_eq_getElem_cons hi]
          congr 1
          rw [List.getElem?_eq_getElem hi] at ed
          exact Option.some.inj ed
        rw [hdrop] at qi
        have kk := ki.trans k2
        have kk0 := k0.trans k2
        cases ea : asg t d ρi with
        | none =>
          simp only [forT, ea] at qi
          exact qi.elim
        | some ρ2 =>
          simp only [forT, ea] at qi
          refine tk.to s2 (rei.keep k2) (.dat dx) ea fun σ2 re2 _ => ⟨φi, ρ2, Si, s2, re2, ?_⟩
          revert qi
          cases f ρ2 Si with
          | next ρ3 S3 => exact fun qi σ3 H3 φ3 s3 k3 re3 => ⟨φ3, ρ3, S3, s3, kk.trans k3, kk0.trans k3, re3, qi⟩
          | cont ρ3 S3 => exact fun qi σ3 H3 φ3 s3 k3 re3 => ⟨φ3, ρ3, S3, s3, kk.trans k3, kk0.trans k3, re3, qi⟩
          | brk ρ3 S3 => exact fun qi σ3 H3 φ3 s3 k3 re3 => forE_next lk1 s3 (kk.trans k3) re3 qi
          | ret d S3 =>
            intro qi v H3 φ3 s3 k3 r3
            have qi : AnsS X.K X.mg (match free w.2 S3 with | some S => .ret d S | none => .stuck) H φ S E := qi
            cases ef : free w.2 S3 with
            | none => rw [ef] at qi; exact qi.elim
            | some S4 =>
              rw [ef] at qi
              obtain ⟨s4, k4, l4, m4⟩ := free_ok s3 (kk.trans k3).k0 lk1 ef
              exact qi v H3 φ3 s4 (k4.k (kk.trans k3).bs) (r3.mu_le m4)
          | exn x ρ3 S3 =>
            intro qi
            have qi : AnsS X.K X.mg (match free w.2 S3 with | some S => .exn x ρ3 S | none => .stuck) H φ S E := qi
            cases ef : free w.2 S3 with
            | none => rw [ef] at qi; exact qi.elim
            | some S4 => rw [ef] at qi; exact qi.elim
          | stuck => exact fun qi => qi.elim
      · rintro σ Hi ⟨φi, ρi, Si, si, ki, _, rei, qi⟩
        rw [List.drop_length] at qi
        exact forE_next lk1 si ki rei qi
end
end VS

/-! VS, part N: chains, calls by keywords; the look at the text. -/
namespace VS
open PySem PySem.Spec L2 PyProof.Rows

section
variable {X : Cx} {k : Nat} {Φ : CallF} {fs bs : List Str} {pos : Pos}
/-- a op b op' c -/
theorem chain_read {K : PySem.W.Frag} {mg : Str → Option Value} {fa fb fc : Env → Cells → R D} {op op' : Cop} {σ : L2.St} {H : Hp} {Q Q' : VK} (hq : ∀ {H : Hp} {φ : Ad} {S : Cells} {o : Option Bool}, Ans K mg (bR o S) H φ S Q → Ans K mg (bR o S) H φ S Q')
    (h : TEv K mg (fun ρ S => norm S.length ((fa ρ S).bind fun x S => (fb ρ S).bind fun y S => both x y S fun x' y' => match cmpV op x' y' with
      | some true => (fc ρ S).bind fun z S => both y z S fun y z => bR (cmpV op' y z) S
      | some false => .ok (.bl false) S
      | none => .stuck)) σ H Q) : tChain (rCmp K mg op) (rCmp K mg op') (TEv K mg fa) (TEv K mg fb) (TEv K mg fc) σ H Q' := by
  obtain ⟨φ, ρ, S, st, re, q⟩ := TEv.norm h
  refine ⟨φ, ρ, S, st, re, (Ans.step q).mono fun x H1 ⟨φ1, S1, a, s1, r1, k1, q1⟩ => ⟨φ1, ρ, S1, s1, re.keep k1, (Ans.step q1).mono fun y H2 ⟨φ2, S2, b, s2, r2, k2, q2⟩ => ?_⟩⟩
  obtain ⟨a', b', va, vb, q3⟩ := both_ans s2 (r1.keep k2) r2 q2
  refine ⟨φ2, S2, a', b', s2, va, vb, ?_⟩
  cases e : cmpV op a' b' with
  | none => rw [e] at q3; exact q3.elim
  | some t =>
    rw [e] at q3
    intro v H3 φ3 s3 r3 k3
    refine ⟨t, rep_bl r3, ?_⟩
    cases t with
    | false => exact hq (o := some false) q3 _ H3 φ3 s3 (.dat (.bl false)) k3
    | true =>
      refine ⟨φ3, ρ, S2, s3, ((re.keep k1).keep k2).keep k3, (Ans.step (Ans.later k3 q3)).mono fun z H4 ⟨φ4, S4, c, s4, r4, k4, q4⟩ => ?_⟩
      obtain ⟨b2, c2, vb2, vc2, q5⟩ := both_ans s4 ((r2.keep k3).keep k4) r4 q4
      exact ⟨φ4, S4, b2, c2, s4, vb2, vc2, hq q5⟩
theorem se_chain (g : GX X k Φ fs bs) {a b c : Expr} {fa fb fc : Env → Cells → R D} (op op' : Cop) (ha : PE X a (TEv X.K X.mg fa)) (hb : PE X b (TEv X.K X.mg fb)) (hc : PE X c (TEv X.K X.mg fc)) (hm : lastMarks [cOf op, cOf op'] [b, c] = false) :
    PE X (.Compare a [cOf op, cOf op'] [b, c] pos) (TEv X.K X.mg fun ρ S => norm S.length ((fa ρ S).bind fun x S => (fb ρ S).bind fun y S => both x y S fun x' y' => match cmpV op x' y' with
      | some true => (fc ρ S).bind fun z S => both y z S fun y z => bR (cmpV op' y z) S
      | some false => .ok (.bl false) S
      | none => .stuck)) :=
  (pe_chain (or_cmp g.hu op) (or_cmp g.hu op') ha hb hc (hm := hm)).imp fun σ H Q h => chain_read (fun h => h) h
theorem st_chain (g : GX X k Φ fs bs) {a b c : Expr} {fa fb fc : Env → Cells → R D} (op op' : Cop) (ha : PE X a (TEv X.K X.mg fa)) (hb : PE X b (TEv X.K X.mg fb)) (hc : PE X c (TEv X.K X.mg fc)) (hm : lastMarks [cOf op, cOf op'] [b, c] = false) :
    PT X (.Compare a [cOf op, cOf op'] [b, c] pos) (TTv X.K X.mg fun ρ S => norm S.length ((fa ρ S).bind fun x S => (fb ρ S).bind fun y S => both x y S fun x' y' => match cmpV op x' y' with
      | some true => (fc ρ S).bind fun z S => both y z S fun y z => bR (cmpV op' y z) S
      | some false => .ok (.bl false) S
      | none => .stuck)) :=
  (pt_chain (or_cmp g.hu op) (or_cmp g.hu op') ha hb hc (hm := hm)).imp fun σ H Q h => by
    exact chain_read bool_ans (ttv_step h)

/-! ### keywords -/
structure KwOk (P : Program) (w : World) (K : PySem.W.Frag) (mg : Str → Option Value) (base : Heap) (k : Nat) (Φ : CallF) (f : Str) (n : Nat) (ks : List Str) (pm : List Nat) : Prop where
  to : ∃ (a : Addr) (fd : FuncData) (ps : List Str), mg f = some (.ref a) ∧ PySem.W.keepIn K (.ref a) = true ∧ pm.length = ps.length ∧ (∀ i ∈ pm, i < n + ks.length) ∧
    (∀ (s : Shared) (us ws : List Value), K.In s.heap → us.length = n → ws.length = ks.length → BindsTo s fd ⟨us, ks.zip ws⟩ (ps.zip (pm.map fun i => (us ++ ws).getD i .none))) ∧ FnG P w K mg base k a fd ps (spF K mg Φ f ps.length)
theorem _root_.L2.PK.imp {X : Cx} {e : List Keyword} {t t' : TA} (h : PK X e t) (i : ∀ σ H Q, t' σ H Q → t σ H Q) : PK X e t' := ⟨fun pos pins s σ H Q I q => h.run pos pins s σ H Q I (i σ H Q q)⟩
theorem sk_nil : PK X [] (TAv X.K X.mg fun _ S => .ok [] S) := pk_nil.imp fun σ H Q ⟨φ, ρ, S, st, re, a⟩ => a [] H φ st .nil (Keep.refl _ _ _)
theorem sk_cons {e : Expr} {nm : Option Str} {kpos : Pos} {es : List Keyword} {fa : Env → Cells → R D} {fb : Env → Cells → R (List D)} (ha : PE X e (TEv X.K X.mg fa)) (hb : PK X es (TAv X.K X.mg fb)) :
    PK X (⟨nm, e, kpos⟩ :: es) (TAv X.K X.mg fun ρ S => (fa ρ S).bind fun d S => (fb ρ S).bind fun ds S => .ok (d :: ds) S) :=
  (pk_cons ha hb).imp fun σ H Q ⟨φ, ρ, S, st, re, a⟩ => by
    refine ⟨φ, ρ, S, st, re, (Ans.steps a).mono fun v H1 ⟨φ1, S1, d, st1, r1, k1, a1⟩ => ?_⟩
    refine ⟨φ1, ρ, S1, st1, re.keep k1, ?_⟩
    show Anss _ _ (fb ρ S1) H1 φ1 S1 _
    cases e : fb ρ S1 with
    | ok ds S2 =>
      rw [e] at a1
      exact fun vs H2 φ2 st2 r2 k2 => a1 (v :: vs) H2 φ2 st2 (.cons (r1.keep k2) r2) k2
    | exn x S2 => rw [e] at a1; exact a1
    | stuck => rw [e] at a1; exact a1
theorem repl_get {K : PySem.W.Frag} {mg : Str → Option Value} {H : Hp} {φ : Ad} {S : Cells} {vs : List V} {ds : List D} (h : Repl K mg H φ S vs ds) : ∀ {i : Nat}, i < vs.length → Rep K mg H φ S (vs.getD i .non) (ds.getD i .non) := by
  induction h with
  | nil => intro i hi; cases hi
  | cons a b ih =>
    intro i hi
    cases i with
    | zero => exact a
    | succ i => exact ih (by simpa using hi)
theorem vals_get {vs : List V} {us : List Value} (h : Vals vs us) : ∀ {i : Nat}, i < vs.length → RelV (vs.getD i .non) (us.getD i .none) := by
  induction h with
  | nil => intro i hi; cases hi
  | cons a b ih =>
    intro i hi
    cases i with
    | zero => exact a
    | succ i => exact ih (by simpa using hi)
theorem repl_pm {K : PySem.W.Frag} {mg : Str → Option Value} {H : Hp} {φ : Ad} {S : Cells} {vs : List V} {ds : List D} (h : Repl K mg H φ S vs ds) : ∀ {pm : List Nat}, (∀ i ∈ pm, i < vs.length) → Repl K mg H φ S (pm.map fun i => vs.getD i .non) (pm.map fun i => ds.getD i .non)
  | [], _ => .nil
  | i :: pm, hi => .cons (repl_get h (hi i List.mem_cons_self)) (repl_pm h fun j hj => hi j (List.mem_cons_of_mem _ hj))
theorem vals_pm {vs : List V} {us : List Value} (h : Vals vs us) : ∀ {pm : List Nat}, (∀ i ∈ pm, i < vs.length) → Vals (pm.map fun i => vs.getD i .non) (pm.map fun i => us.getD i .none)
  | [], _ => .nil
  | i :: pm, hi => .cons (vals_get h (hi i List.mem_cons_self)) (vals_pm h fun j hj => hi j (List.mem_cons_of_mem _ hj))
theorem kwE (kws : List Keyword) (env : PySem.Env) (pos : Pos) : (backToKw pos (keywordEach kws env)).map (·.1) = kws.map (·.arg) := by
  induction kws with
  | nil => rfl
  | cons a r ih =>
    obtain ⟨n, v, p⟩ := a
    show n :: (backToKw pos (keywordEach r env)).map (·.1) = n :: r.map (·.arg)
    rw [ih]
theorem filterMap_map1 {α β : Type} (l : List (Option α × β)) : l.filterMap (·.1) = (l.map (·.1)).filterMap id := by
  rw [List.filterMap_map] <;> rfl
theorem all_map1 {α β : Type} (l : List (Option α × β)) : l.all (·.1.isSome) = (l.map (·.1)).all (·.isSome) := by
  rw [List.all_map] <;> rfl
theorem any_map1 {α β : Type} (l : List (Option α × β)) : l.any (·.1.isNone) = (l.map (·.1)).any (·.isNone) := by
  rw [List.any_map] <;> rfl
theorem se_callk0 (g : GX X k Φ fs bs) {x : Str} {p : Pos} {kws : List Keyword} {ks : List Str} {pm : List Nat} {fa : Env → Cells → R (List D)} (KW : KwOk X.prog X.w X.K X.mg X.base k Φ x 0 ks pm) (hg : Gl X x) (hd : (x == ("__debug__" : Str)) = false)
    (ha : PK X kws (TAv X.K X.mg fa)) (hks : kws.map (·.arg) = ks.map some) (hl : ∀ ρ S ds S', fa ρ S = .ok ds S' → ds.length = ks.length) :
    PE X (.Call (.Name x p) [] kws pos) (TEv X.K X.mg fun ρ S => norm S.length ((fa ρ S).bind fun ds S => Φ x (pm.map fun i => ds.getD i .non) S)) := by
  obtain ⟨a, fd, ps, hm, hk, hpm, hin, hb, F⟩ := KW.to
  refine ⟨fun pins s σ H Q I h => ?_⟩
  obtain ⟨φ, ρ, S, st, re, q⟩ := TEv.norm h
  refine wpAny_Call_Name_kw (ld_glob I hg hm ?_ hd)
  have e1 : (backToKw pos (keywordEach kws X.env)).all (·.1.isSome) = true := by
    rw [all_map1, kwE, hks, List.all_map]; exact List.all_eq_true.mpr fun _ _ => rfl
  have e2 : ((backTo pos (starEach [] X.env)).any (·.1) || (backToKw pos (keywordEach kws X.env)).any (·.1.isNone)) = false := by
    rw [any_map1, kwE, hks, List.any_map]
    show (false || _) = false
    rw [Bool.false_or]
    exact List.any_eq_false.mpr fun _ _ z => nomatch z
  have e3 : (backToKw pos (keywordEach kws X.env)).filterMap (·.1) = ks := by
    rw [filterMap_map1, kwE, hks, List.filterMap_map]
    exact List.filterMap_some
  refine PySem.W.callWith_KW0 (h₀ := X.base) I.ok.mod.kin hk e1 (thn (ha.run pos pins s σ H (fun vs H1 => ∃ φ1 S1 ds, vs.length = ks.length ∧ StOk X.K X.mg H1 φ1 S1 ∧ Repl X.K X.mg H1 φ1 S1 vs ds ∧ Ans X.K X.mg (Φ x (pm.map fun i => ds.getD i .non) S1) H1 φ1 S1 Q) I
    ⟨φ, ρ, S, st, re, ?_⟩) fun us s1 ⟨vs, H1, I1, r1, φ1, S1, ds, el, st1, rr, a1⟩ => ⟨I1.kIn, ?_⟩) e2
  · dsimp only at q
    cases e : fa ρ S with
    | ok ds S2 =>
      have el := hl _ _ _ _ e
      rw [e] at q
      exact fun vs H2 φ2 s2 r2 k2 => ⟨φ2, S2, ds, by rw [r2.length]; exact el, s2, r2, Ans.later k2 q⟩
    | exn x S2 => rw [e] at q; exact q
    | stuck => rw [e] at q; exact q
  · rw [e3]
    have hi : ∀ i ∈ pm, i < vs.length := fun i h => by rw [el]; simpa using hin i h
    have vl : us.length = ks.length := by rw [← r1.length]; exact el
    have bb := hb s1 [] us I1.kIn rfl vl
    have r2 := vals_pm r1 hi
    refine wpAny_call (codeAny_mono (F.run X.A X.stack s1 H1 ⟨[], ks.zip us⟩ _ (pm.map fun i => vs.getD i .non) Q g.room g.guards I1.env0 (by simpa using bb) r2 ⟨by simp [hpm], φ1, S1, _, st1, repl_pm rr hi, a1⟩) fun res s' hq => ?_)
    match res, hq with
    | .error e, hq => exact (False.elim hq)
    | .ok (.ret u), hq => exact I1.after hq
    | .ok .next, hq => exact False.elim hq
    | .ok .brk, hq => exact False.elim hq
    | .ok .cont, hq => exact False.elim hq
end
end VS

/-! VS, part O: the look at the text: expressions. -/
namespace VS
open PySem PySem.Spec L2 PyProof.Rows

/-- what a def's text is looked at with -/
structure Ck where
  N : List Str
  sc : Scope
  fn : Str → Bool
  fs : List Str
  bs : List Str
  kw : List (Str × List Str × List Nat)
def Ck.vis (c : Ck) (x : Str) : Bool := match c.sc.names.lookup x with | some .local => true | some .cell => true | some .free => true | _ => false
def Ck.gl (c : Ck) (x : Str) : Bool := match c.sc.names.lookup x with | some .globalImplicit => true | _ => false
def Ck.loc (c : Ck) (x : Str) : Bool := match c.sc.names.lookup x with | some .local => true | some .cell => c.fn x | _ => false
def Ck.blk (c : Ck) (scope : Scope) : Ck := { c with sc := relS scope c.sc, fn := fun x => scope.names.lookup x == some .cell }
def nodbg (x : Str) : Bool := !(x == ("__debug__" : Str)) && !(x == ("__classdict__" : Str))
def noStar (e : Expr) : Bool := match e with | .Starred .. => false | _ => true
def noComp (e : Expr) : Bool := match e with | .ListComp .. => false | .SetComp .. => false | .DictComp .. => false | _ => true
def noCall (e : Expr) : Bool := match e with | .Call .. => false | _ => true
def noSlice (e : Expr) : Bool := match e with | .Slice .. => false | _ => true
def noSet (e : Expr) : Bool := match e with | .Set .. => false | _ => true
def plainT (e : Expr) : Bool := match e with | .UnaryOp .. => false | .BoolOp .. => false | .IfExp .. => false | .Compare .. => false | _ => true
def okK (d : D) (c : Const) : Bool :=
  match d, c with
  | .non, .none => true
  | .bl b, .bool b' => b == b'
  | .int i, .int j => decide (i = j)
  | .str s, .str t => decide (s = t)
  | _, _ => false
def okTgs : List Nat → Ck → List Expr → Bool
  | [], _, [] => true
  | i :: is, c, .Name x _ :: es => decide (c.N[i]? = some x) && c.loc x && okTgs is c es
  | _, _, _ => false
def okTg (t : Tg) (c : Ck) (e : Expr) : Bool :=
  match t, e with
  | .v i, .Name x _ => decide (c.N[i]? = some x) && c.loc x
  | .tup is, .Tuple es _ _ => okTgs is c es
  | _, _ => false
def tgIs : Tg → List Nat
  | .v i => [i]
  | .tup is => is
def ownOf (c : Ck) (w : List Nat) : List (Str × Nat) := w.map fun i => (c.N.getD i "", i)

mutual
def okX : Ex → Bool → Ck → Expr → Bool
  | .k d, _, _, e => match e with | .Constant c _ _ => okK d c | _ => false
  | .v i, _, c, e => match e with | .Name x _ => decide (c.N[i]? = some x) && c.vis x && nodbg x | _ => false
  | .g y, _, c, e => match e with | .Name x _ => decide (x = y) && c.fs.contains x && c.gl x && nodbg x | _ => false
  | .tup es, _, c, e => match e with | .Tuple l _ _ => okXs es c l | _ => false
  | .lst es, _, c, e => match e with | .List l _ => okXs es c l | _ => false
  | .bin op a b, _, c, e => match e with | .BinOp l o r _ => decide (o = opOf op) && okX a false c l && okX b false c r | _ => false
  | .neg a, t, c, e => !t && match e with | .UnaryOp .USub x _ => okX a false c x | _ => false
  | .cmp op a b, _, c, e => match e with | .Compare l [o] [r] _ => decide (o = cOf op) && okX a false c l && okX b false c r && noSet r | _ => false
  | .chain o p a b d, _, c, e => match e with | .Compare l [o', p'] [m, r] _ => decide (o' = cOf o) && decide (p' = cOf p) && okX a false c l && okX b false c m && okX d false c r && noSet r | _ => false
  | .and a b, t, c, e => match e with
    | .BoolOp .And (x :: y :: ys) p => okX a t c x && (match ys with | [] => okX b t c y | z :: zs => okX b t c (.BoolOp .And (y :: z :: zs) p))
    | _ => false
  | .or a b, t, c, e => match e with
    | .BoolOp .Or (x :: y :: ys) p => okX a t c x && (match ys with | [] => okX b t c y | z :: zs => okX b t c (.BoolOp .Or (y :: z :: zs) p))
    | _ => false
  | .not a, t, c, e => match e with | .UnaryOp .Not x _ => okX a t c x | _ => false
  | .ite a b d, t, c, e => !t && match e with | .IfExp x y z _ => okX a true c x && okX b false c y && okX d false c z | _ => false
  | .ix a i, _, c, e => match e with | .Subscript x y _ => okX a false c x && okX i false c y && noSlice y | _ => false
  | .int1 _, _, _, _ => false
  | .sl a lo hi, _, c, e => match e with | .Subscript x (.Slice l h none _) _ => okX a false c x && okP lo c l && okP hi c h | _ => false
  | .isi a t, _, c, e => match e with
    | .Call (.Name f _) [x, .Name y _] [] _ => decide (f = ("isinstance" : Str)) && decide (y = Str.ofString t) && isiTys.contains t && c.bs.contains f && c.bs.contains y && c.gl f && c.gl y && noStar x && okX a false c x
    | _ => false
  | .call f es, _, c, e => match e with | .Call (.Name x _) l [] _ => decide (x = f) && c.fs.contains x && c.gl x && nodbg x && okXs es c l | _ => false
  | .callv _ _, _, _, _ => false
  | .callk f pm es, _, c, e => match e with
    | .Call (.Name x _) [] kws _ => decide (x = f) && c.gl x && nodbg x && c.kw.contains (x, kws.filterMap (·.arg), pm) && decide (kws.map (·.arg) = (kws.filterMap (·.arg)).map some) && okKs es c kws
    | _ => false
  | .blt b es, _, c, e => match e with | .Call (.Name x _) (y :: l) [] _ => bltOk b && decide (x = bltName b) && c.bs.contains x && c.gl x && okXs es c (y :: l) | _ => false
  | .mth m o es, _, c, e => match e with
    | .Call (.Attribute o' a apos) l [] pos => decide (a = mthName m) && okX o false c o' && noCall o' && (apos.endLine == pos.line) && okXs es c l && (if m = .reverse then l.isEmpty else m ≠ .pop1 && l.length == 1)
    | _ => false
  | .lc elt w tg it ifs, _, c, e => match e with
    | .ListComp el [⟨t, i, fs, 0⟩] scope _ => okI it c t i && noSet i && blkC c.N c.sc scope (ownOf c w) && okTg tg (c.blk scope) t && (tgIs tg).all (fun i => w.contains i) && okTs ifs (c.blk scope) fs && okX elt false (c.blk scope) el
    | _ => false
  | .lc2 .., _, _, _ => false
/-- a slice's part -/
def okP : Ex → Ck → Option Expr → Bool
  | .k d, _, o => match o, d with | none, .non => true | _, _ => false
  | .int1 a, c, o => match o with | some e => okX a false c e | none => false
  | _, _, _ => false
def okXs : Exs → Ck → List Expr → Bool
  | .nil, _, l => l.isEmpty
  | .cons e es, c, l => match l with | x :: xs => okX e false c x && noStar x && okXs es c xs | [] => false
def okKs : Exs → Ck → List Keyword → Bool
  | .nil, _, l => l.isEmpty
  | .cons e es, c, l => match l with | ⟨_, x, _⟩ :: xs => okX e false c x && okKs es c xs | [] => false
/-- a comprehension's tests -/
def okTs : Exs → Ck → List Expr → Bool
  | .nil, _, l => l.isEmpty
  | .cons e es, c, l => match l, es with | [x], .nil => okX e true c x | _, _ => false
def okI : It → Ck → Expr → Expr → Bool
  | .seq e, c, _, i => okX e false c i
  | .rng1 a, c, _, i => match i with | .Call (.Name x _) [y] [] _ => decide (x = ("range" : Str)) && c.bs.contains x && c.gl x && noStar y && okX a false c y | _ => false
  | .rng2 a b, c, _, i => match i with | .Call (.Name x _) [y, z] [] _ => decide (x = ("range" : Str)) && c.bs.contains x && c.gl x && noStar y && noStar z && okX a false c y && okX b false c z | _ => false
  | .enum e, c, t, i => match t, i with | .Tuple .., .Call (.Name x _) [y] [] _ => decide (x = ("enumerate" : Str)) && c.bs.contains x && c.gl x && noStar y && okX e false c y | _, _ => false
  | .zip _ _, _, _, _ => false
  | .rev e, c, _, i => match i with | .Call (.Name x _) [y] [] _ => decide (x = ("reversed" : Str)) && c.bs.contains x && c.gl x && noStar y && okX e false c y | _ => false
end
end VS

/-! VS, part P: the look is sound: expressions. -/
namespace VS
open PySem PySem.Spec L2 PyProof.Rows

theorem star_cons {e : Expr} {es : List Expr} {env : PySem.Env} (h : noStar e = true) : starEach (e :: es) env = (false, eval e env) :: starEach es env := by
  cases e <;> first | rfl | exact nomatch h
theorem plain_true {a : Expr} {env : PySem.Env} (h : plainT a = true) : ∀ whole, isTrue a env whole = (do let v ← whole; standAt a.pos; holding [v] (truthy v)) := by
  intro whole
  cases a <;> first | rfl | exact nomatch h
theorem plain_ix {b : Expr} (h : noSlice b = true) : PlainIx b := by
  intro o i
  cases b <;> first | rfl | exact nomatch h
theorem plain_base {o : Expr} {a : Str} {env : PySem.Env} {whole : Sem Value} (h : noCall o = true) : attributeBase o a env whole = whole := by
  cases o <;> first | rfl | exact nomatch h
theorem plain_mark {b : Expr} {op : CmpOp} (h : noSet b = true) : behindInMarks op b = false := by
  cases b <;> first | rfl | exact nomatch h
theorem plain_iter {b : Expr} {env : PySem.Env} (h : noSet b = true) : ∀ x, foldedSetIterable b env x = pure x := by
  intro x
  cases b <;> first | rfl | exact nomatch h
theorem any_star {l : List Expr} {env : PySem.Env} {pos : Pos} (h : l.all noStar = true) : (backTo pos (starEach l env)).any (·.1) = false := by
  induction l with
  | nil => rfl
  | cons a r ih =>
    rw [List.all_cons, Bool.and_eq_true] at h
    rw [star_cons h.1]
    show (false || (backTo pos (starEach r env)).any (·.1)) = false
    rw [ih h.2] <;> rfl
theorem boot_ty {t : String} (h : isiTys.contains t = true) : bootBuiltins (Str.ofString t) = some (.type t) ∧ (Str.ofString t) ≠ "__name__" ∧ ((Str.ofString t) == ("__debug__" : Str)) = false := by
  have key : ∀ t ∈ isiTys, bootBuiltins (Str.ofString t) = some (.type t) ∧ (Str.ofString t) ≠ "__name__" ∧ ((Str.ofString t) == ("__debug__" : Str)) = false := by
    intro t ht
    simp only [isiTys, List.mem_cons, List.not_mem_nil, or_false] at ht
    rcases ht with rfl | rfl | rfl | rfl | rfl | rfl <;> exact ⟨by rfl, by decide +kernel, by decide +kernel⟩
  exact key t (List.contains_iff_mem.mp h)

/-- one stands where the look was taken -/
structure GC (c : Ck) (X : Cx) (k : Nat) (Φ : CallF) : Prop where
  g : GX X k Φ c.fs c.bs
  N : X.N = c.N
  sc : X.env.scope = c.sc
  fn : ∀ x, c.fn x = true → X.fn x = true
  kws : ∀ p ∈ c.kw, KwOk X.prog X.w X.K X.mg X.base k Φ p.1 0 p.2.1 p.2.2
section
variable {c : Ck} {X : Cx} {k : Nat} {Φ : CallF} {pos : Pos}
theorem GC.nm (G : GC c X k Φ) {i : Nat} {x : Str} (h : c.N[i]? = some x) : X.N[i]? = some x := by rw [G.N]; exact h
theorem GC.vis (G : GC c X k Φ) {x : Str} (h : c.vis x = true) : Vis X.env.scope x := by
  unfold Ck.vis at h
  unfold Vis
  rw [G.sc]
  split at h
  · exact .inl (by assumption)
  · exact .inr (.inl (by assumption))
  · exact .inr (.inr (by assumption))
  · cases h
theorem GC.gl (G : GC c X k Φ) {x : Str} (h : c.gl x = true) : Gl X x := by
  unfold Ck.gl at h
  show X.env.scope.names.lookup x = _
  rw [G.sc]
  split at h
  · assumption
  · cases h
theorem GC.loc (G : GC c X k Φ) {x : Str} (h : c.loc x = true) : L2.Loc X.env.scope x ∧ (X.fn x = true ∨ X.env.scope.names.lookup x = some .local) := by
  unfold Ck.loc at h
  unfold L2.Loc
  rw [G.sc]
  split at h
  · rename_i e; exact ⟨.inl e, .inr e⟩
  · rename_i e; exact ⟨.inr e, .inl (G.fn x h)⟩
  · cases h
theorem nodbg_ok {x : Str} (h : nodbg x = true) : (x == ("__debug__" : Str)) = false ∧ (x == ("__classdict__" : Str)) = false := by
  unfold nodbg at h
  simpa using h
theorem GC.blk (G : GC c X k Φ) (s : Shared) (H : Hp) (scope : Scope) (cl : List (Str × Addr)) (C : Addr) (fp : List Addr) : GC (c.blk scope) (X.blk s H scope (compEnvC scope cl C X.env) fp) k Φ where
  g := ⟨G.g.calm, G.g.nd, G.g.room, G.g.guards, G.g.calls, G.g.blts⟩
  N := G.N
  sc := by
    show relS scope X.env.scope = relS scope c.sc
    rw [G.sc]
  fn := fun x h => h
  kws := G.kws
theorem GC.blt (G : GC c X k Φ) {x : Str} (h : c.bs.contains x = true) : x ∈ c.bs := List.contains_iff_mem.mp h

/-! ### targets -/
def gsOf : List Nat → TGs
  | [] => gNil
  | i :: is => gCons (gName i) (gsOf is)
def gOf (K : PySem.W.Frag) : Tg → TG
  | .v i => gName i
  | .tup is => gTup K is.length (gsOf is)
theorem tgs_ok (G : GC c X k Φ) (is : List Nat) : ∀ es : List Expr, okTgs is c es = true → TgsOk X es is (gsOf is) ∧ (assignEach es X.env).length = is.length ∧ (assignEach es X.env).findIdx? (·.1) = none := by
  induction is with
  | nil =>
    intro es h
    cases es with
    | nil => exact ⟨tgs_nil, rfl, rfl⟩
    | cons e es => exact absurd (show false = true by cases e <;> exact h) Bool.false_ne_true
  | cons i is ih =>
    intro es h
    cases es with
    | nil => exact absurd (show false = true from h) Bool.false_ne_true
    | cons e es =>
      cases e with
      | Name x p =>
        have h' : (decide (c.N[i]? = some x) && c.loc x && okTgs is c es) = true := h
        simp only [Bool.and_eq_true, decide_eq_true_eq] at h'
        obtain ⟨⟨h1, h2⟩, h3⟩ := h'
        obtain ⟨a, b, d⟩ := ih es h3
        obtain ⟨l1, l2⟩ := G.loc h2
        refine ⟨tgs_cons (tg_name G.g.nd (G.nm h1) l1 l2) a rfl, congrArg (· + 1) b, ?_⟩
        show List.findIdx? (·.1) ((false, _) :: assignEach es X.env) = none
        rw [List.findIdx?_cons]
        simp [d]
      | _ => exact absurd (show false = true from h) Bool.false_ne_true
theorem tg_ok {t : Tg} {e : Expr} (G : GC c X k Φ) (h : okTg t c e = true) : TgOk X e t (gOf X.K t) (tgIs t) := by
  unfold okTg at h
  split at h
  · simp only [Bool.and_eq_true, decide_eq_true_eq] at h
    obtain ⟨l1, l2⟩ := G.loc h.2
    exact tg_name G.g.nd (G.nm h.1) l1 l2
  · obtain ⟨a, b, d⟩ := tgs_ok G _ _ h
    exact tg_tup G.g.calm a b d
  · cases h
end
end VS

/-! VS, part Q: the look is sound: expressions, all. -/
namespace VS
open PySem PySem.Spec L2 PyProof.Rows

theorem _root_.L2.PT.to {X : Cx} {e : Expr} {f g : Env → Cells → R D} (h : PT X e (TTv X.K X.mg f)) (e1 : ∀ ρ S, g ρ S = f ρ S) : PT X e (TTv X.K X.mg g) := by
  have : g = f := by funext ρ S; exact e1 ρ S
  rw [this]; exact h
theorem _root_.L2.PW.to {X : Cx} {e : Expr} {f g : Env → Cells → R D} (h : PW X e (TTv X.K X.mg f)) (e1 : ∀ ρ S, g ρ S = f ρ S) : PW X e (TTv X.K X.mg g) := by
  have : g = f := by funext ρ S; exact e1 ρ S
  rw [this]; exact h
theorem _root_.L2.PA.to {X : Cx} {e : List Expr} {f g : Env → Cells → R (List D)} (h : PA X e (TAv X.K X.mg f)) (e1 : ∀ ρ S, g ρ S = f ρ S) : PA X e (TAv X.K X.mg g) := by
  have : g = f := by funext ρ S; exact e1 ρ S
  rw [this]; exact h
theorem _root_.L2.PK.to {X : Cx} {e : List Keyword} {f g : Env → Cells → R (List D)} (h : PK X e (TAv X.K X.mg f)) (e1 : ∀ ρ S, g ρ S = f ρ S) : PK X e (TAv X.K X.mg g) := by
  have : g = f := by funext ρ S; exact e1 ρ S
  rw [this]; exact h
theorem _root_.L2.PI.to {X : Cx} {tg e : Expr} {f g : Env → Cells → R Walked} (h : PI X tg e (TIv X.K X.mg f)) (e1 : ∀ ρ S, g ρ S = f ρ S) : PI X tg e (TIv X.K X.mg g) := by
  have : g = f := by funext ρ S; exact e1 ρ S
  rw [this]; exact h

/-- the tests' reading -/
def ttOf (Φ : CallF) (es : Exs) (K : PySem.W.Frag) (mg : Str → Option Value) : TT := match es with
  | .nil => tYes
  | .cons e _ => TTv K mg (evE Φ e)
structure SE (k : Nat) (Φ : CallF) (x : Ex) : Prop where
  e : ∀ {c : Ck} {X : Cx} {e : Expr}, GC c X k Φ → okX x false c e = true → PE X e (TEv X.K X.mg (evE Φ x))
  t : ∀ {c : Ck} {X : Cx} {e : Expr}, GC c X k Φ → okX x true c e = true → PT X e (TTv X.K X.mg (evE Φ x)) ∧ ∀ op l p, e = .BoolOp op l p → PW X e (TTv X.K X.mg (evE Φ x))
structure SEs (k : Nat) (Φ : CallF) (es : Exs) : Prop where
  a : ∀ {c : Ck} {X : Cx} {l : List Expr}, GC c X k Φ → okXs es c l = true → PA X l (TAv X.K X.mg (evEs Φ es)) ∧ l.all noStar = true
  kw : ∀ {c : Ck} {X : Cx} {l : List Keyword}, GC c X k Φ → okKs es c l = true → PK X l (TAv X.K X.mg (evEs Φ es)) ∧ ∀ ρ S ds S', evEs Φ es ρ S = .ok ds S' → ds.length = l.length
  ts : ∀ {c : Ck} {X : Cx} {l : List Expr}, GC c X k Φ → okTs es c l = true → TsOk X l (ttOf Φ es X.K X.mg) (evTs Φ es)
structure SI (k : Nat) (Φ : CallF) (i : It) : Prop where
  i : ∀ {c : Ck} {X : Cx} {tg e : Expr}, GC c X k Φ → okI i c tg e = true → PI X tg e (TIv X.K X.mg (evI Φ i))
theorem SE.plain {k : Nat} {Φ : CallF} {x : Ex} (hp : ∀ {c : Ck} {X : Cx} {e : Expr}, GC c X k Φ → okX x false c e = true → PE X e (TEv X.K X.mg (evE Φ x)) ∧ plainT e = true) (ht : ∀ c e, okX x true c e = true → okX x false c e = true) : SE k Φ x where
  e := fun G h => (hp G h).1
  t := fun {c X e} G h => by
    obtain ⟨h1, h2⟩ := hp G (ht c e h)
    refine ⟨st_truth h1 (plain_true h2), fun op l p e' => ?_⟩
    subst e'
    exact nomatch h2
theorem okK_ok {d : D} {c : Const} {X : Cx} {j : Nat} {pos : Pos} (h : okK d c = true) : PE X (.Constant c j pos) (TEv X.K X.mg fun _ S => .ok d S) := by
  unfold okK at h
  split at h
  · exact se_k pe_non fun H φ S => .dat .non
  · rename_i b b'
    have : b = b' := by simpa using h
    subst this
    exact se_k pe_bl fun H φ S => .dat (.bl b)
  · rename_i i j
    have : i = j := by simpa using h
    subst this
    exact se_k pe_int fun H φ S => .dat (.int i)
  · rename_i i j
    have : i = j := by simpa using h
    subst this
    exact se_k pe_str fun H φ S => .dat (.str i)
  · cases h
theorem part_of {k : Nat} {Φ : CallF} {x : Ex} {c : Ck} {X : Cx} {o : Option Expr} (G : GC c X k Φ) (ih : ∀ a, x = .int1 a → SE k Φ a) (h : okP x c o = true) : PartOk X o (evE Φ x) := by
  unfold okP at h
  split at h
  · split at h
    · have e : evE Φ (.k .non) = fun _ S => .ok .non S := by funext ρ S; rw [evE]
      rw [e]
      exact .none
    · cases h
  · rename_i a
    split at h
    · have e : evE Φ (.int1 a) = fun ρ S => (evE Φ a ρ S).bind intOnly := by funext ρ S; rw [evE]
      rw [e]
      exact .some ((ih a rfl).e G h)
    · cases h
  · cases h

section
variable {k : Nat} {Φ : CallF}
theorem sx_bin {op : Bop} {a b : Ex} (ia : SE k Φ a) (ib : SE k Φ b) : SE k Φ (.bin op a b) := .plain (fun G h => by
  unfold okX at h
  split at h
  · simp only [Bool.and_eq_true, decide_eq_true_eq] at h
    obtain ⟨⟨rfl, h1⟩, h2⟩ := h
    exact ⟨(se_bin op (ia.e G h1) (ib.e G h2)).to fun ρ S => by rw [evE], rfl⟩
  · cases h) fun _ _ h => h
theorem sx_cmp {op : Cop} {a b : Ex} (ia : SE k Φ a) (ib : SE k Φ b) : SE k Φ (.cmp op a b) where
  e := fun G h => by
    unfold okX at h
    split at h
    · simp only [Bool.and_eq_true, decide_eq_true_eq] at h
      obtain ⟨⟨⟨rfl, h1⟩, h2⟩, h3⟩ := h
      exact (se_cmp G.g op (ia.e G h1) (ib.e G h2) (plain_mark h3)).to fun ρ S => by rw [evE]
    · cases h
  t := fun G h => by
    unfold okX at h
    split at h
    · simp only [Bool.and_eq_true, decide_eq_true_eq] at h
      obtain ⟨⟨⟨rfl, h1⟩, h2⟩, h3⟩ := h
      exact ⟨(st_cmp G.g op (ia.e G h1) (ib.e G h2) (plain_mark h3)).to fun ρ S => by rw [evE], fun _ _ _ e => nomatch e⟩
    · cases h
theorem sx_chain {o p : Cop} {a b d : Ex} (ia : SE k Φ a) (ib : SE k Φ b) (id : SE k Φ d) : SE k Φ (.chain o p a b d) where
  e := fun G h => by
    unfold okX at h
    split at h
    · simp only [Bool.and_eq_true, decide_eq_true_eq] at h
      obtain ⟨⟨⟨⟨⟨rfl, rfl⟩, h1⟩, h2⟩, h3⟩, h4⟩ := h
      exact (se_chain G.g o p (ia.e G h1) (ib.e G h2) (id.e G h3) (plain_mark h4)).to fun ρ S => by rw [evE] <;> rfl
    · cases h
  t := fun G h => by
    unfold okX at h
    split at h
    · simp only [Bool.and_eq_true, decide_eq_true_eq] at h
      obtain ⟨⟨⟨⟨⟨rfl, rfl⟩, h1⟩, h2⟩, h3⟩, h4⟩ := h
      exact ⟨(st_chain G.g o p (ia.e G h1) (ib.e G h2) (id.e G h3) (plain_mark h4)).to fun ρ S => by rw [evE] <;> rfl, fun _ _ _ e => nomatch e⟩
    · cases h
theorem sx_and {a b : Ex} (ia : SE k Φ a) (ib : SE k Φ b) : SE k Φ (.and a b) where
  e := fun {c X e} G h => by
    unfold okX at h
    split at h
    · rename_i x y ys p
      rw [Bool.and_eq_true] at h
      obtain ⟨h1, h2⟩ := h
      have hb : PE X (.BoolOp .And (y :: ys) p) (TEv X.K X.mg (evE Φ b)) := by
        split at h2
        · exact pe_one (ib.e G h2)
        · exact ib.e G h2
      exact (se_and (ia.e G h1) hb).to fun ρ S => by rw [evE]
    · cases h
  t := fun {c X e} G h => by
    unfold okX at h
    split at h
    · rename_i x y ys p
      rw [Bool.and_eq_true] at h
      obtain ⟨h1, h2⟩ := h
      have hb : PW X (.BoolOp .And (y :: ys) p) (TTv X.K X.mg (evE Φ b)) := by
        split at h2
        · exact sw_one (ib.t G h2).1
        · exact (ib.t G h2).2 _ _ _ rfl
      have w := (sw_and (ia.t G h1).1 hb).to (g := evE Φ (.and a b)) fun ρ S => by rw [evE]
      exact ⟨w.pt, fun _ _ _ _ => w⟩
    · cases h
theorem sx_or {a b : Ex} (ia : SE k Φ a) (ib : SE k Φ b) : SE k Φ (.or a b) where
  e := fun {c X e} G h => by
    unfold okX at h
    split at h
    · rename_i x y ys p
      rw [Bool.and_eq_true] at h
      obtain ⟨h1, h2⟩ := h
      have hb : PE X (.BoolOp .Or (y :: ys) p) (TEv X.K X.mg (evE Φ b)) := by
        split at h2
        · exact pe_one (ib.e G h2)
        · exact ib.e G h2
      exact (se_or (ia.e G h1) hb).to fun ρ S => by rw [evE]
    · cases h
  t := fun {c X e} G h => by
    unfold okX at h
    split at h
    · rename_i x y ys p
      rw [Bool.and_eq_true] at h
      obtain ⟨h1, h2⟩ := h
      have hb : PW X (.BoolOp .Or (y :: ys) p) (TTv X.K X.mg (evE Φ b)) := by
        split at h2
        · exact sw_one (ib.t G h2).1
        · exact (ib.t G h2).2 _ _ _ rfl
      have w := (sw_or (ia.t G h1).1 hb).to (g := evE Φ (.or a b)) fun ρ S => by rw [evE]
      exact ⟨w.pt, fun _ _ _ _ => w⟩
    · cases h
theorem sx_not {a : Ex} (ia : SE k Φ a) : SE k Φ (.not a) where
  e := fun G h => by
    unfold okX at h
    split at h
    · exact (se_not (ia.e G h)).to fun ρ S => by rw [evE]
    · cases h
  t := fun G h => by
    unfold okX at h
    split at h
    · exact ⟨(st_not (ia.t G h).1).to fun ρ S => by rw [evE], fun _ _ _ e => nomatch e⟩
    · cases h
theorem sx_ite {a b d : Ex} (ia : SE k Φ a) (ib : SE k Φ b) (id : SE k Φ d) : SE k Φ (.ite a b d) where
  e := fun {c X e} G h => by
    unfold okX at h
    rw [Bool.not_false, Bool.true_and] at h
    split at h
    · simp only [Bool.and_eq_true] at h
      obtain ⟨⟨h1, h2⟩, h3⟩ := h
      exact (se_ite (ia.t G h1).1 (ib.e G h2) (id.e G h3)).to fun ρ S => by rw [evE] <;> rfl
    · cases h
  t := fun G h => by
    unfold okX at h
    exact nomatch (show false = true from h)
theorem sx_neg {a : Ex} (ia : SE k Φ a) : SE k Φ (.neg a) where
  e := fun {c X e} G h => by
    unfold okX at h
    rw [Bool.not_false, Bool.true_and] at h
    split at h
    · exact (se_neg (ia.e G h)).to fun ρ S => by rw [evE] <;> rfl
    · cases h
  t := fun G h => by
    unfold okX at h
    exact nomatch (show false = true from h)
theorem sx_ix {a i : Ex} (ia : SE k Φ a) (ii : SE k Φ i) : SE k Φ (.ix a i) := .plain (fun G h => by
  unfold okX at h
  split at h
  · simp only [Bool.and_eq_true] at h
    obtain ⟨⟨h1, h2⟩, h3⟩ := h
    exact ⟨(se_ix (ia.e G h1) (ii.e G h2) (plain_ix h3)).to fun ρ S => by rw [evE], rfl⟩
  · cases h) fun _ _ h => h
theorem sx_sl {a lo hi : Ex} (ia : SE k Φ a) (il : ∀ x, lo = .int1 x → SE k Φ x) (ih : ∀ x, hi = .int1 x → SE k Φ x) : SE k Φ (.sl a lo hi) := .plain (fun G h => by
  unfold okX at h
  split at h
  · simp only [Bool.and_eq_true] at h
    obtain ⟨⟨h1, h2⟩, h3⟩ := h
    exact ⟨(se_sl (ia.e G h1) (part_of G il h2) (part_of G ih h3)).to fun ρ S => by rw [evE], rfl⟩
  · cases h) fun _ _ h => h
theorem sx_isi {a : Ex} {t : String} (ia : SE k Φ a) : SE k Φ (.isi a t) := .plain (fun G h => by
  unfold okX at h
  split at h
  · simp only [Bool.and_eq_true, decide_eq_true_eq] at h
    obtain ⟨⟨⟨⟨⟨⟨⟨⟨h1, rfl⟩, h3⟩, h4⟩, h5⟩, h6⟩, h7⟩, h8⟩, h9⟩ := h
    obtain ⟨b1, b2, b3⟩ := boot_ty h3
    exact ⟨(se_isi G.g (ia.e G h9) h3 h1 (G.gl h6) (G.blt h4) (G.gl h7) (G.blt h5) b1 b2 b3 (star_cons h8)).to fun ρ S => by rw [evE], rfl⟩
  · cases h) fun _ _ h => h
theorem sx_call {f : Str} {es : Exs} (ie : SEs k Φ es) : SE k Φ (.call f es) := .plain (fun {c X e} G h => by
  unfold okX at h
  split at h
  · rename_i x p l pos
    simp only [Bool.and_eq_true, decide_eq_true_eq] at h
    obtain ⟨⟨⟨⟨rfl, h2⟩, h3⟩, h4⟩, h5⟩ := h
    obtain ⟨ha, hs⟩ := ie.a G h5
    refine ⟨?_, rfl⟩
    cases l with
    | nil =>
      cases es with
      | nil => exact (se_call0 G.g (List.contains_iff_mem.mp h2) (G.gl h3) (nodbg_ok h4).1).to fun ρ S => by rw [evE, evEs]
      | cons _ _ => unfold okXs at h5; exact nomatch h5
    | cons e es' =>
      rw [List.all_cons, Bool.and_eq_true] at hs
      exact (se_call G.g (List.contains_iff_mem.mp h2) (G.gl h3) (nodbg_ok h4).1 ha (star_cons hs.1) (any_star hs.2)).to fun ρ S => by rw [evE]
  · cases h) fun _ _ h => h
theorem sx_callk {f : Str} {pm : List Nat} {es : Exs} (ie : SEs k Φ es) : SE k Φ (.callk f pm es) := .plain (fun {c X e} G h => by
  unfold okX at h
  split at h
  · rename_i x p kws pos
    simp only [Bool.and_eq_true, decide_eq_true_eq] at h
    obtain ⟨⟨⟨⟨⟨rfl, h2⟩, h3⟩, h4⟩, h5⟩, h6⟩ := h
    obtain ⟨ha, hl⟩ := ie.kw G h6
    have hlen : (kws.filterMap (·.arg)).length = kws.length := by
      have := congrArg List.length h5
      simpa using this.symm
    exact ⟨(se_callk0 G.g (G.kws _ (List.contains_iff_mem.mp h4)) (G.gl h2) (nodbg_ok h3).1 ha h5 fun ρ S ds S' e => by rw [hlen]; exact hl ρ S ds S' e).to fun ρ S => by rw [evE], rfl⟩
  · cases h) fun _ _ h => h
theorem sx_blt {b : Blt} {es : Exs} (ie : SEs k Φ es) : SE k Φ (.blt b es) := .plain (fun {c X e} G h => by
  unfold okX at h
  split at h
  · simp only [Bool.and_eq_true, decide_eq_true_eq] at h
    obtain ⟨⟨⟨⟨h1, h2⟩, h3⟩, h4⟩, h5⟩ := h
    obtain ⟨ha, hs⟩ := ie.a G h5
    rw [List.all_cons, Bool.and_eq_true] at hs
    exact ⟨(se_blt G.g h1 h2 (G.gl h4) (G.blt h3) ha (star_cons hs.1) (any_star hs.2)).to fun ρ S => by rw [evE], rfl⟩
  · cases h) fun _ _ h => h
theorem sx_mth {m : Mth} {o : Ex} {es : Exs} (io : SE k Φ o) (ie : SEs k Φ es) : SE k Φ (.mth m o es) := .plain (fun {c X e} G h => by
  unfold okX at h
  split at h
  · rename_i o' a apos l pos
    simp only [Bool.and_eq_true, decide_eq_true_eq] at h
    obtain ⟨⟨⟨⟨⟨rfl, h2⟩, h3⟩, h4⟩, h5⟩, h6⟩ := h
    obtain ⟨ha, hs⟩ := ie.a G h5
    refine ⟨?_, rfl⟩
    by_cases hm : m = .reverse
    · rw [if_pos hm] at h6
      subst hm
      cases l with
      | cons _ _ => cases h6
      | nil =>
        cases es with
        | nil => exact (se_rev (io.e G h2) (plain_base h3) h4).to fun ρ S => by rw [evE] <;> rfl
        | cons _ _ => unfold okXs at h5; exact nomatch h5
    · rw [if_neg hm] at h6
      simp only [Bool.and_eq_true, decide_eq_true_eq, beq_iff_eq] at h6
      obtain ⟨h7, h8⟩ := h6
      match l, h8 with
      | [x], _ =>
        rw [List.all_cons, Bool.and_eq_true] at hs
        exact (se_mth1 ⟨hm, h7⟩ (io.e G h2) ha (plain_base h3) h4 (star_cons hs.1)).to fun ρ S => by rw [evE]
  · cases h) fun _ _ h => h
theorem sx_lc {elt : Ex} {w : List Nat} {tg : Tg} {it : It} {ifs : Exs} (ie : SE k Φ elt) (ii : SI k Φ it) (iT : SEs k Φ ifs) : SE k Φ (.lc elt w tg it ifs) := .plain (fun {c X e} G h => by
  unfold okX at h
  split at h
  · rename_i el t i fs scope pos
    simp only [Bool.and_eq_true] at h
    obtain ⟨⟨⟨⟨⟨⟨h1, h2⟩, h3⟩, h4⟩, h5⟩, h6⟩, h7⟩ := h
    have hw : (ownOf c w).map (·.2) = w := by unfold ownOf; rw [List.map_map]; exact List.map_id _
    have L : LcOk X el t i fs scope (ownOf c w) tg (evI Φ it) (evTs Φ ifs) (evE Φ elt) :=
      { it := ii.i G h1
        blk := by rw [G.N, G.sc]; exact blkOk_by h3
        set := plain_iter h2
        tgs := ⟨gOf X.K tg, tgIs tg, fun i hi => by rw [hw]; exact List.contains_iff_mem.mp (List.all_eq_true.mp h5 i hi), fun s H C cl fp => tg_ok (G.blk s H scope cl C fp) h4⟩
        ts := ⟨ttOf Φ ifs X.K X.mg, fun s H C cl fp => iT.ts (G.blk s H scope cl C fp) h6⟩
        el := fun s H C cl fp => ie.e (G.blk s H scope cl C fp) h7 }
    refine ⟨(se_lc G.g.calm G.g.nd L).to fun ρ S => ?_, rfl⟩
    rw [evE, hw]
    rfl
  · cases h) fun _ _ h => h
mutual
theorem sX : ∀ x : Ex, SE k Φ x
  | .k d => .plain (fun G h => by
      unfold okX at h
      split at h
      · exact ⟨(okK_ok h).to fun ρ S => by rw [evE], rfl⟩
      · cases h) fun _ _ h => h
  | .v i => .plain (fun G h => by
      unfold okX at h
      split at h
      · simp only [Bool.and_eq_true, decide_eq_true_eq] at h
        obtain ⟨⟨h1, h2⟩, h3⟩ := h
        exact ⟨(se_var G.g (G.nm h1) (G.vis h2) (nodbg_ok h3).1 (nodbg_ok h3).2).to fun ρ S => by rw [evE], rfl⟩
      · cases h) fun _ _ h => h
  | .g x => .plain (fun G h => by
      unfold okX at h
      split at h
      · simp only [Bool.and_eq_true, decide_eq_true_eq] at h
        obtain ⟨⟨⟨rfl, h2⟩, h3⟩, h4⟩ := h
        exact ⟨(se_g G.g (List.contains_iff_mem.mp h2) (G.gl h3) (nodbg_ok h4).1).to fun ρ S => by rw [evE], rfl⟩
      · cases h) fun _ _ h => h
  | .tup es => .plain (fun G h => by
      unfold okX at h
      split at h
      · exact ⟨(se_tup ((sXs es).a G h).1).to fun ρ S => by rw [evE], rfl⟩
      · cases h) fun _ _ h => h
  | .lst es => .plain (fun G h => by
      unfold okX at h
      split at h
      · exact ⟨(se_lst ((sXs es).a G h).1).to fun ρ S => by rw [evE], rfl⟩
      · cases h) fun _ _ h => h
  | .bin op a b => sx_bin (sX a) (sX b)
  | .neg a => sx_neg (sX a)
  | .cmp op a b => sx_cmp (sX a) (sX b)
  | .chain o p a b d => sx_chain (sX a) (sX b) (sX d)
  | .and a b => sx_and (sX a) (sX b)
  | .or a b => sx_or (sX a) (sX b)
  | .not a => sx_not (sX a)
  | .ite a b d => sx_ite (sX a) (sX b) (sX d)
  | .ix a i => sx_ix (sX a) (sX i)
  | .int1 a => ⟨fun G h => absurd h (by unfold okX; exact Bool.false_ne_true), fun G h => absurd h (by unfold okX; exact Bool.false_ne_true)⟩
  | .sl a lo hi => sx_sl (sX a) (sY lo) (sY hi)
  | .isi a t => sx_isi (sX a)
  | .call f es => sx_call (sXs es)
  | .callv f es => ⟨fun G h => absurd h (by unfold okX; exact Bool.false_ne_true), fun G h => absurd h (by unfold okX; exact Bool.false_ne_true)⟩
  | .callk f pm es => sx_callk (sXs es)
  | .blt b es => sx_blt (sXs es)
  | .mth m o es => sx_mth (sX o) (sXs es)
  | .lc elt w tg it ifs => sx_lc (sX elt) (sIt it) (sXs ifs)
  | .lc2 .. => ⟨fun G h => absurd h (by unfold okX; exact Bool.false_ne_true), fun G h => absurd h (by unfold okX; exact Bool.false_ne_true)⟩
theorem sY : ∀ (x : Ex) (a : Ex), x = .int1 a → SE k Φ a
  | .int1 a, b, h => by cases h; exact sX a
  | .k d, _, h => nomatch h
  | .v i, _, h => nomatch h
  | .g x, _, h => nomatch h
  | .tup es, _, h => nomatch h
  | .lst es, _, h => nomatch h
  | .bin op a b, _, h => nomatch h
  | .neg a, _, h => nomatch h
  | .cmp op a b, _, h => nomatch h
  | .chain o p a b d, _, h => nomatch h
  | .and a b, _, h => nomatch h
  | .or a b, _, h => nomatch h
  | .not a, _, h => nomatch h
  | .ite a b d, _, h => nomatch h
  | .ix a i, _, h => nomatch h
  | .sl a lo hi, _, h => nomatch h
  | .isi a t, _, h => nomatch h
  | .call f es, _, h => nomatch h
  | .callv f es, _, h => nomatch h
  | .callk f pm es, _, h => nomatch h
  | .blt b es, _, h => nomatch h
  | .mth m o es, _, h => nomatch h
  | .lc elt w tg it ifs, _, h => nomatch h
  | .lc2 .., _, h => nomatch h
theorem sXs : ∀ es : Exs, SEs k Φ es
  | .nil =>
    { a := fun {c X l} G h => by
        unfold okXs at h
        cases l with
        | nil => exact ⟨sa_nil.to fun ρ S => by rw [evEs], rfl⟩
        | cons _ _ => cases h
      kw := fun {c X l} G h => by
        unfold okKs at h
        cases l with
        | nil => exact ⟨sk_nil.to fun ρ S => (by rw [evEs]), fun ρ S ds S' e => by rw [evEs] at e; cases e; rfl⟩
        | cons _ _ => cases h
      ts := fun {c X l} G h => by
        unfold okTs at h
        cases l with
        | nil =>
          have e : evTs Φ .nil = fun _ S => .ok true S := by funext ρ S; rw [evTs]
          rw [e]
          exact ts_nil
        | cons _ _ => cases h }
  | .cons e es =>
    { a := fun {c X l} G h => by
        unfold okXs at h
        cases l with
        | nil => cases h
        | cons x xs =>
          simp only [Bool.and_eq_true] at h
          obtain ⟨⟨h1, h2⟩, h3⟩ := h
          obtain ⟨ha, hs⟩ := (sXs es).a G h3
          exact ⟨(sa_cons ((sX e).e G h1) ha (star_cons h2)).to fun ρ S => (by rw [evEs]), by rw [List.all_cons, h2, hs] <;> rfl⟩
      kw := fun {c X l} G h => by
        unfold okKs at h
        cases l with
        | nil => cases h
        | cons x xs =>
          obtain ⟨nm, x, p⟩ := x
          simp only [Bool.and_eq_true] at h
          obtain ⟨h1, h3⟩ := h
          obtain ⟨ha, hs⟩ := (sXs es).kw G h3
          refine ⟨(sk_cons ((sX e).e G h1) ha).to fun ρ S => (by rw [evEs]), fun ρ S ds S' e' => ?_⟩
          rw [evEs] at e'
          obtain ⟨d, S1, e1, e2⟩ := bind_ok e'
          obtain ⟨ds', S2, e3, e4⟩ := bind_ok e2
          cases e4
          simp [hs _ _ _ _ e3]
      ts := fun {c X l} G h => by
        unfold okTs at h
        split at h
        · rename_i x
          have e : evTs Φ (.cons e .nil) = fun ρ S => (evE Φ e ρ S).bind fun d S => match truth S d with
              | some true => .ok true S
              | some false => .ok false S
              | none => .stuck := by
            funext ρ S
            rw [evTs]
            rfl
          rw [e]
          exact ts_one ((sX _).t G h).1
        · cases h }
theorem sIt : ∀ i : It, SI k Φ i
  | .seq e => ⟨fun G h => by unfold okI at h; exact (si_seq ((sX e).e G h)).to fun ρ S => by rw [evI]⟩
  | .rng1 a => ⟨fun G h => by
      unfold okI at h
      split at h
      · simp only [Bool.and_eq_true, decide_eq_true_eq] at h
        obtain ⟨⟨⟨⟨rfl, h2⟩, h3⟩, h4⟩, h5⟩ := h
        exact (si_rng1 G.g ((sX a).e G h5) (G.gl h3) (G.blt h2) (by rw [star_cons h4] <;> rfl)).to fun ρ S => by rw [evI] <;> rfl
      · cases h⟩
  | .rng2 a b => ⟨fun G h => by
      unfold okI at h
      split at h
      · simp only [Bool.and_eq_true, decide_eq_true_eq] at h
        obtain ⟨⟨⟨⟨⟨⟨rfl, h2⟩, h3⟩, h4⟩, h5⟩, h6⟩, h7⟩ := h
        exact (si_rng2 G.g ((sX a).e G h6) ((sX b).e G h7) (G.gl h3) (G.blt h2) (by rw [star_cons h4, star_cons h5] <;> rfl) (by rw [star_cons h5] <;> rfl)).to fun ρ S => by rw [evI] <;> rfl
      · cases h⟩
  | .enum e => ⟨fun G h => by
      unfold okI at h
      split at h
      · simp only [Bool.and_eq_true, decide_eq_true_eq] at h
        obtain ⟨⟨⟨⟨rfl, h2⟩, h3⟩, h4⟩, h5⟩ := h
        exact (si_enum G.g ((sX e).e G h5) (G.gl h3) (G.blt h2) (by rw [star_cons h4] <;> rfl)).to fun ρ S => by rw [evI]
      · cases h⟩
  | .zip a b => ⟨fun G h => by unfold okI at h; exact nomatch h⟩
  | .rev e => ⟨fun G h => by
      unfold okI at h
      split at h
      · simp only [Bool.and_eq_true, decide_eq_true_eq] at h
        obtain ⟨⟨⟨⟨rfl, h2⟩, h3⟩, h4⟩, h5⟩ := h
        exact (si_rev G.g ((sX e).e G h5) (G.gl h3) (G.blt h2) (by rw [star_cons h4] <;> rfl)).to fun ρ S => by rw [evI]
      · cases h⟩
end
end
end VS

/-! VS, part R: the look at the text: statements. -/
namespace VS
open PySem PySem.Spec L2 PyProof.Rows

def noTup (e : Expr) : Bool := match e with | .Tuple .. => false | _ => true
/-- a comprehension that is stored under this local name at once -/
def swC (c : Ck) (y : Str) (py : Pos) (x : Expr) : Bool :=
  match x with
  | .ListComp _ [⟨_, _, _, 0⟩] scope pos => (match c.sc.names.lookup y with
    | some .local => (py.line == pos.line) && !(scope.names.any fun (n, k) => n == y && (k == .local || k == .cell))
    | some .cell => true
    | _ => false)
  | _ => false
def unstar (e : Expr) : Expr := match e with | .Starred x _ => x | x => x
def starAt (es : List Expr) : Option Nat := es.findIdx? fun e => !noStar e
mutual
def okS : Sx → Ck → Stmt → Bool
  | .expr e, c, s => match s with | .Expr x _ => noComp x && okX e false c x | _ => false
  | .ret e, c, s => match s with | .Return (some x) _ => okX e false c x | _ => false
  | .retN, _, s => match s with | .Return none _ => true | _ => false
  | .set i e, c, s => match s with | .Assign [.Name y p] x _ => decide (c.N[i]? = some y) && c.loc y && (noComp x || swC c y p x) && okX e false c x | _ => false
  | .unp is e, c, s => match s with | .Assign [.Tuple ts k p] x _ => noComp x && noTup x && okTg (.tup is) c (.Tuple ts k p) && okX e false c x | _ => false
  | .star is a e, c, s => match s with | .Assign [.Tuple ts _ _] x _ => noComp x && noTup x && okTgs is c (ts.map unstar) && decide (starAt ts = some a) && okX e false c x | _ => false
  | .seti o i e, c, s => match s with | .Assign [.Subscript o' i' _] x _ => noSlice i' && okX o false c o' && okX i false c i' && okX e false c x | _ => false
  | .aug i op e, c, s => match s with | .AugAssign (.Name y _) o x _ => decide (c.N[i]? = some y) && c.loc y && decide (o = opOf op) && okX e false c x | _ => false
  | .ite t a b, c, s => match s with | .If x p q _ => okX t true c x && okSs a c p && okSs b c q | _ => false
  | .for tg it b, c, s => match s with | .For t i p [] _ => okI it c t i && noSet i && okTg tg c t && okSs b c p | _ => false
  | .while t b, c, s => match s with | .While x p [] _ => okX t true c x && okSs b c p | _ => false
  | .pass, _, s => match s with | .Pass _ => true | .Expr (.Constant (.str _) _ _) _ => true | _ => false
  | .cont, _, s => match s with | .Continue _ => true | _ => false
  | .brk, _, s => match s with | .Break _ => true | _ => false
  | .never, _, _ => true
def okSs : Sxs → Ck → List Stmt → Bool
  | .nil, _, l => l.isEmpty
  | .cons x xs, c, l => match l with | s :: ss => okS x c s && okSs xs c ss | [] => false
end

theorem sw_plain {e : Expr} {t : Option Expr} {l : Nat} {env : PySem.Env} (h : noComp e = true) : swapsWith e t l env = pure false := by
  cases e <;> first | rfl | exact nomatch h
theorem sw_cell {elt : Expr} {gs : List Comprehension} {scope : Scope} {pos py : Pos} {y : Str} {l : Nat} {env : PySem.Env} (hy : env.scope.names.lookup y = some .cell) : swapsWith (.ListComp elt gs scope pos) (some (.Name y py)) l env = pure false := by
  have ky : env.kindOf y = some .cell := hy
  unfold swapsWith
  simp only [ky]
  have e : (some NameKind.cell == some NameKind.local) = false := rfl
  rw [e, Bool.and_false, Bool.false_and, Bool.false_and]

section
variable {X : Cx} {k : Nat} {Φ : CallF} {fs bs : List Str} {pos : Pos}
def ipA (op : Bop) : TIp := fun x y H Q => ∃ m n z, x = .int m ∧ y = .int n ∧ augV op m (.int n) = some z ∧ Q (.int z) H
theorem ip_aug (op : Bop) : PIp X (opOf op) (ipA op) := by
  intro pins s σ H x y v u Q I r1 r2 ⟨m, n, z, e1, e2, e3, q⟩
  cases op with
  | add => cases e3; exact ip_add pins s σ H x y v u Q I r1 r2 ⟨m, n, e1, e2, q⟩
  | sub => cases e3; exact ip_sub pins s σ H x y v u Q I r1 r2 ⟨m, n, e1, e2, q⟩
  | _ => cases e3
theorem ss_aug (hN : X.N.Nodup) {i : Nat} {x : Str} {pos' : Pos} {e : Expr} {f : Env → Cells → R D} (op : Bop) (hi : X.N[i]? = some x) (hx : L2.Loc X.env.scope x) (hf : X.fn x = true ∨ X.env.scope.names.lookup x = some .local) (h : PE X e (TEv X.K X.mg f)) :
    PS X (.AugAssign (.Name x pos') (opOf op) e pos) (TSv X.K X.mg fun ρ S => (look ρ i S).toF ρ fun x S => match x with
      | .int m => (f ρ S).toF ρ fun y S => match augV op m y with
        | some z => .next (ρ.set i (some (.int z))) S
        | none => .stuck
      | _ => .stuck) :=
  (ps_aug hN hi hx h (ip_aug op) hf).imp fun E σ H ⟨φ, ρ, S, st, re, q⟩ => by
    dsimp only at q
    unfold look at q
    split at q
    · rename_i d hd
      obtain ⟨v, ev, rv⟩ := re.at_ i d hd
      simp only [R.toF] at q
      split at q
      · rename_i m
        refine ⟨v, ev, φ, ρ, S, st, re, (toF_ans (show AnsS X.K X.mg (R.toF ρ _ _) H φ S E from q)).mono fun y H1 ⟨φ1, S1, d, s1, r1, k1, q1⟩ => ?_⟩
        cases ea : augV op m d with
        | none => rw [ea] at q1; exact q1.elim
        | some z =>
          rw [ea] at q1
          have ed : ∃ n, d = .int n := by
            unfold augV at ea
            split at ea
            · exact ⟨_, rfl⟩
            · exact ⟨_, rfl⟩
            · cases ea
          obtain ⟨n, rfl⟩ := ed
          exact ⟨m, n, z, rep_int rv, rep_int r1, ea, AnsS.here (σ := σ.set i (some (.int z))) q1 s1 ((re.keep k1).set (.dat (.int z)))⟩
      · exact q.elim
    · exact q.elim
/-- name = [..] -/
theorem ss_setLc (hc : X.calm = true) (hN : X.N.Nodup) {i : Nat} {y : Str} {py spos : Pos} {elt tg iter : Expr} {ifs : List Expr} {scope : Scope} {own : List (Str × Nat)} {t : Tg} {fI : Env → Cells → R Walked} {fT : Env → Cells → R Bool} {fE : Env → Cells → R D} (L : LcOk X elt tg iter ifs scope own t fI fT fE)
    (hi : X.N[i]? = some y) (hy : X.env.scope.names.lookup y = some .local) (hsw : swapsWith (.ListComp elt [⟨tg, iter, ifs, 0⟩] scope pos) (some (.Name y py)) spos.line X.env = pure true) :
    PS X (.Assign [.Name y py] (.ListComp elt [⟨tg, iter, ifs, 0⟩] scope pos) spos) (TSv X.K X.mg fun ρ S => (lcD fI t (own.map (·.2)) fT fE ρ S).toF ρ fun d S => .next (ρ.set i (some d)) S) := by
  obtain ⟨g, vt, hv, tk⟩ := L.tgs
  obtain ⟨tt, tsk⟩ := L.ts
  refine (ps_setLc hc hN hi hy hsw L.it L.blk (fun s H C cl fp => (tk s H C cl fp).pg) (fun s H C cl fp => (tsk s H C cl fp).pt) L.el (hs := L.set)).imp fun E σ H ⟨φ, ρ, S, st, re, q⟩ => ?_
  refine lc_read hv (fun {H φ S σ ρ ρ' v d Q} => (tk {} (fun _ => none) 0 [] []).to) (fun {H φ S S1 σ ρ t Q} => (tsk {} (fun _ => none) 0 [] []).to) (fun h => h) σ H _ ⟨φ, ρ, S, st, re, (toF_ans q).mono fun v H1 ⟨φ1, S1, d, s1, r1, k1, q1⟩ => ?_⟩
  exact AnsS.here (σ := σ.set i (some v)) q1 s1 ((re.keep k1).set r1)
end

theorem lc_inv {e : Ex} {c : Ck} {el : Expr} {gs : List Comprehension} {scope : Scope} {pos : Pos} (h : okX e false c (.ListComp el gs scope pos) = true) : ∃ elt w tg it ifs, e = .lc elt w tg it ifs := by
  cases e <;> first | exact ⟨_, _, _, _, _, rfl⟩ | (exfalso; unfold okX at h; exact absurd h (by simp))
theorem lc_of {k : Nat} {Φ : CallF} {c : Ck} {X : Cx} {elt : Ex} {w : List Nat} {tg : Tg} {it : It} {ifs : Exs} {el t i : Expr} {fs : List Expr} {scope : Scope} {pos : Pos} (G : GC c X k Φ) (h : okX (.lc elt w tg it ifs) false c (.ListComp el [⟨t, i, fs, 0⟩] scope pos) = true) :
    LcOk X el t i fs scope (ownOf c w) tg (evI Φ it) (evTs Φ ifs) (evE Φ elt) ∧ (ownOf c w).map (·.2) = w := by
  unfold okX at h
  simp only [Bool.and_eq_true] at h
  obtain ⟨⟨⟨⟨⟨⟨h1, h2⟩, h3⟩, h4⟩, h5⟩, h6⟩, h7⟩ := h
  have hw : (ownOf c w).map (·.2) = w := by unfold ownOf; rw [List.map_map]; exact List.map_id _
  exact ⟨{ it := (sIt it).i G h1
           blk := by rw [G.N, G.sc]; exact blkOk_by h3
           set := plain_iter h2
           tgs := ⟨gOf X.K tg, tgIs tg, fun i hi => by rw [hw]; exact List.contains_iff_mem.mp (List.all_eq_true.mp h5 i hi), fun s H C cl fp => tg_ok (G.blk s H scope cl C fp) h4⟩
           ts := ⟨ttOf Φ ifs X.K X.mg, fun s H C cl fp => (sXs ifs).ts (G.blk s H scope cl C fp) h6⟩
           el := fun s H C cl fp => (sX elt).e (G.blk s H scope cl C fp) h7 }, hw⟩
structure SS (k : Nat) (Φ : CallF) (W : Nat) (x : Sx) : Prop where
  s : ∀ {c : Ck} {X : Cx} {st : Stmt}, GC c X k Φ → X.xe = (fun _ _ => False) → c.sc.kind = .function → okS x c st = true → PS X st (TSv X.K X.mg (evS Φ W x))
structure SSs (k : Nat) (Φ : CallF) (W : Nat) (x : Sxs) : Prop where
  s : ∀ {c : Ck} {X : Cx} {st : List Stmt}, GC c X k Φ → X.xe = (fun _ _ => False) → c.sc.kind = .function → okSs x c st = true → PSs X st (TSv X.K X.mg (evSs Φ W x))
theorem _root_.L2.PS.to {X : Cx} {e : Stmt} {f g : Env → Cells → FR} (h : PS X e (TSv X.K X.mg f)) (e1 : ∀ ρ S, g ρ S = f ρ S) : PS X e (TSv X.K X.mg g) := by
  have : g = f := by funext ρ S; exact e1 ρ S
  rw [this]; exact h
theorem _root_.L2.PSs.to {X : Cx} {e : List Stmt} {f g : Env → Cells → FR} (h : PSs X e (TSv X.K X.mg f)) (e1 : ∀ ρ S, g ρ S = f ρ S) : PSs X e (TSv X.K X.mg g) := by
  have : g = f := by funext ρ S; exact e1 ρ S
  rw [this]; exact h
section
variable {k : Nat} {Φ : CallF} {W : Nat}
theorem ss_setX {i : Nat} {e : Ex} : SS k Φ W (.set i e) := ⟨fun {c X st} G hx hk h => by
  unfold okS at h
  split at h
  · rename_i y p x spos
    simp only [Bool.and_eq_true, decide_eq_true_eq, Bool.or_eq_true] at h
    obtain ⟨⟨⟨h1, h2⟩, h3⟩, h4⟩ := h
    obtain ⟨l1, l2⟩ := G.loc h2
    have plain : swapsWith x (some (.Name y p)) spos.line X.env = pure false → PS X (.Assign [.Name y p] x spos) (TSv X.K X.mg (evS Φ W (.set i e))) := fun hs => (ss_set G.g.nd (G.nm h1) l1 l2 ((sX e).e G h4) hs).to fun ρ S => by rw [evS]
    rcases h3 with h3 | h3
    · exact plain (sw_plain h3)
    · unfold swC at h3
      split at h3
      · rename_i el t i' fs scope pos
        split at h3
        · rename_i hl
          rw [Bool.and_eq_true, Bool.not_eq_true'] at h3
          have hl' : X.env.scope.names.lookup y = some .local := by rw [G.sc]; exact hl
          have hsw := sw_true (elt := el) (gs := [⟨t, i', fs, 0⟩]) (pos := pos) (l := spos.line) (by rw [G.sc]; exact hk) hl' h3.1 h3.2
          obtain ⟨elt, w, tg, it, ifs, rfl⟩ := lc_inv h4
          obtain ⟨L, hw⟩ := lc_of G h4
          refine (ss_setLc G.g.calm G.g.nd L (G.nm h1) hl' hsw).to fun ρ S => ?_
          rw [evS, evE, hw]
          rfl
        · rename_i hl
          exact plain (sw_cell (by rw [G.sc]; exact hl))
        · cases h3
      · cases h3
  · cases h⟩
end
end VS

/-! VS, part S: unpacking with a star; all statements. -/
namespace VS
open PySem PySem.Spec L2 PyProof.Rows

section
variable {prog : Program} {w : World} {A : Around} {E : Value → Shared → Prop} {s : Shared}
/-- the first ones, a new list of those between, the last ones -/
def starL (its : List Value) (n i : Nat) (d : Addr) : List Value := its.take i ++ [.ref d] ++ its.drop (its.length - (n - 1 - i))
abbrev starO (its : List Value) (n i : Nat) : Obj := { cls := .type "list", data := .seq ((its.drop i).take (its.length - (n - 1))).toArray }
theorem star_end {its : List Value} {n i : Nat} {s2 : Shared} {Q : List Value → Shared → Prop} (a1 : i < n) (a2 : n ≤ its.length + 1) (a3 : its.length ≤ sizeLine)
    (g : Q (starL its n i s2.heap.objs.size) { s2 with heap := s2.heap.push (starO its n i) }) :
    wpAny (model prog w) A (newList ((its.drop i).take ((its.drop i).length - (n - 1 - i))) >>= fun d => pure (its.take i ++ [d] ++ (its.drop i).drop ((its.drop i).length - (n - 1 - i)))) Q E s2 := by
  have e1 : (its.drop i).length = its.length - i := by simp
  have e2 : (its.drop i).length - (n - 1 - i) = its.length - (n - 1) := by rw [e1]; omega
  rw [e2]
  refine wpAny_bind (wpAny_newList (wpAny_pure ?_) (by rw [List.length_take]; omega))
  rw [List.drop_drop, show i + (its.length - (n - 1)) = its.length - (n - 1 - i) by omega]
  exact g
theorem star_T {l : Addr} {its : List Value} {n i : Nat} {Q : List Value → Shared → Prop} (b1 : IsTup s.heap l its.toArray) (b2 : A.handled = none) (a1 : i < n) (a2 : n ≤ its.length + 1) (a3 : its.length ≤ sizeLine)
    (g : ∀ (h2 : Heap) (tk : Nat), (∀ b o, s.heap.get? b = some o → h2.get? b = some o) → Q (starL its n i h2.objs.size) { s with heap := h2.push (starO its n i), toks := tk }) :
    wpAny (model prog w) A (unpackItems (.ref l) n (some i)) Q E s := by
  have d1 : l ≠ s.heap.objs.size := by obtain ⟨o, ho, _⟩ := b1; exact Nat.ne_of_lt (Heap.lt_size ho)
  have sz : its.toArray.size = its.length := List.size_toArray
  unfold unpackItems
  refine wpAny_bind ?_
  unfold notIterableAtAll
  refine wpAny_bind (wpAny_specialOf b1.typeIs slot_tuple_iter.lookup (wpAny_pure ?_))
  rw [if_neg Bool.false_ne_true]
  refine wpAny_bind (wpAny_holding (iter_tuple b1 ?_))
  refine wpAny_bind (wpAny_holding (draw_tuple d1 i 0 _ _ ⟨_, Heap.get?_push_size _ rfl, rfl, rfl⟩ (b1.push _) (by omega) fun h1 c1 c2 => ?_))
  have b3 : IsTup h1 l its.toArray := (b1.push _).extBut c2.extBut d1
  rw [Nat.zero_add] at c1
  obtain ⟨o1, c3, _⟩ := id c1
  obtain ⟨o2, c4, _⟩ := id b3
  have e0 : (its.toArray.toList.drop 0).take i = its.take i := rfl
  rw [e0, if_neg (show ¬ (its.take i).length < i by rw [List.length_take]; omega)]
  refine wpAny_bind (wpAny_holding (PySem.W.kun_collect (s := { s with heap := h1 }) (T := "tuple_iterator") (.inr (.inr (.inr rfl))) (Walks.tuple (A := A.in1) b2 s.heap.objs.size l d1 its.toArray) (fun j u st => st.1.typeIs) (k := i) (by omega)
    ⟨c1, b3⟩ (Heap.lt_size c3) (Heap.lt_size c4) (fun h2 tk c5 => ?_) (by rw [sz]; exact a3)))
  show wpAny _ _ (if (its.drop i).length < n - 1 - i then _ else _) Q E _
  rw [if_neg (by rw [List.length_drop]; omega)]
  exact star_end (s2 := { s with heap := h2, toks := tk }) a1 a2 a3 (g h2 tk fun b o e => c5 b o (Nat.ne_of_lt (Heap.lt_size e)) (c2.extBut b o (Nat.ne_of_lt (Heap.lt_size e)) (Heap.get?_push_of_some _ e)))
theorem star_L {l : Addr} {its : List Value} {n i : Nat} {Q : List Value → Shared → Prop} (b1 : s.heap.IsList l its.toArray) (b2 : A.handled = none) (a1 : i < n) (a2 : n ≤ its.length + 1) (a3 : its.length ≤ sizeLine)
    (g : ∀ (h2 : Heap) (tk : Nat), (∀ b o, s.heap.get? b = some o → h2.get? b = some o) → Q (starL its n i h2.objs.size) { s with heap := h2.push (starO its n i), toks := tk }) :
    wpAny (model prog w) A (unpackItems (.ref l) n (some i)) Q E s := by
  have d1 : l ≠ s.heap.objs.size := by obtain ⟨o, ho, _⟩ := b1; exact Nat.ne_of_lt (Heap.lt_size ho)
  have sz : its.toArray.size = its.length := List.size_toArray
  unfold unpackItems
  refine wpAny_bind ?_
  unfold notIterableAtAll
  refine wpAny_bind (wpAny_specialOf b1.typeIs slot_list_iter.lookup (wpAny_pure ?_))
  rw [if_neg Bool.false_ne_true]
  refine wpAny_bind (wpAny_holding (wpAny_pyIter_list b1 ?_))
  refine wpAny_bind (wpAny_holding (PySem.W.kun_draw d1 i 0 _ _ ⟨_, Heap.get?_push_size _ rfl, rfl, rfl⟩ (b1.push _) (by omega) fun h1 c1 c2 => ?_))
  have b3 : h1.IsList l its.toArray := (b1.push _).extBut c2.extBut d1
  rw [Nat.zero_add] at c1
  obtain ⟨o1, c3, _⟩ := id c1
  obtain ⟨o2, c4, _⟩ := id b3
  have e0 : (its.toArray.toList.drop 0).take i = its.take i := rfl
  rw [e0, if_neg (show ¬ (its.take i).length < i by rw [List.length_take]; omega)]
  refine wpAny_bind (wpAny_holding (PySem.W.kun_collect (s := { s with heap := h1 }) (T := "list_iterator") (.inr (.inr (.inl rfl))) (Walks.list (A := A.in1) b2 s.heap.objs.size l d1 its.toArray) (fun j u st => st.1.typeIs) (k := i) (by omega)
    ⟨c1, b3⟩ (Heap.lt_size c3) (Heap.lt_size c4) (fun h2 tk c5 => ?_) (by rw [sz]; exact a3)))
  show wpAny _ _ (if (its.drop i).length < n - 1 - i then _ else _) Q E _
  rw [if_neg (by rw [List.length_drop]; omega)]
  exact star_end (s2 := { s with heap := h2, toks := tk }) a1 a2 a3 (g h2 tk fun b o e => c5 b o (Nat.ne_of_lt (Heap.lt_size e)) (c2.extBut b o (Nat.ne_of_lt (Heap.lt_size e)) (Heap.get?_push_of_some _ e)))
end

section
variable {X : Cx} {pos : Pos}
/-- the target with a star -/
def gStar (K : PySem.W.Frag) (n i : Nat) (t : TGs) : TG := fun v σ H Q => ∃ a xs, v = .ref a ∧ (SqT K H a xs ∨ SqL K H a xs) ∧ n ≤ xs.length + 1 ∧
  ∀ d, H d = none → t (xs.take i ++ [.ref d] ++ xs.drop (xs.length - (n - 1 - i))) σ (upd H d (.lst ((xs.drop i).take (xs.length - (n - 1))))) Q
theorem pg_star {es : List Expr} {kk n i : Nat} {t : TGs} (hc : X.calm = true) (h : PGs X es t) (hn : (assignEach es X.env).length = n) (hst : (assignEach es X.env).findIdx? (·.1) = some i) (hi : i < n) : PG X (.Tuple es kk pos) (gStar X.K n i t) := by
  refine ⟨fun pins s σ H v u Q I r hw => ?_⟩
  obtain ⟨a, xs, rfl, hq, hl, hw⟩ := hw
  cases r
  rw [PyProof.Rows.assign_Tuple]
  refine wpAny_bind (wpAny_standAt ?_)
  unfold unpack
  rw [hn, hst]
  have fin : ∀ its : List Value, Vals xs its → xs.length ≤ sizeLine → ∀ (h2 : Heap) (tk : Nat), (∀ b o, s.heap.get? b = some o → h2.get? b = some o) →
      wpAny (model X.prog X.w) X.A (assignInOrder ((assignEach es X.env).map (·.2)) (starL its n i h2.objs.size)) (fun _ s' => ∃ σ' H', Inv X pins σ' H' s' ∧ Q σ' H') X.xe { s with heap := h2.push (starO its n i), toks := tk } := by
    intro its rv hz h2 tk hk
    have I2 : Inv X pins σ H { s with heap := h2, toks := tk } := I.kept hk
    have e := rv.length
    have I3 := I2.laid (a := h2.objs.size) (o := .lst ((xs.drop i).take (xs.length - (n - 1)))) (h' := h2.push (starO its n i)) (t' := tk) (fun b u z => Heap.get?_push_of_some _ z) (Nat.le_refl _)
      ⟨(by rw [List.length_take, List.length_drop]; omega), (its.drop i).take (its.length - (n - 1)), 0, (by rw [e]; exact (rv.drop i).take _), Heap.get?_push_size _ rfl⟩
    refine h.run pins _ σ _ _ _ Q I3 ?_ (hw _ (I2.hok.fresh (Nat.le_refl _)))
    unfold starL
    rw [← e]
    exact ((rv.take i).append (.cons (show RelV (V.ref h2.objs.size) (Value.ref h2.objs.size) from rfl) .nil)).append (rv.drop _)
  rcases hq with hq | hq
  · obtain ⟨its, rv, ht, hz⟩ := I.tuple hq
    have e := rv.length
    exact wpAny_bind (wpAny_holding (star_T ht (I.ok.hd hc) hi (by omega) (by omega) (fin its rv hz)))
  · obtain ⟨its, rv, ht, hz⟩ := I.list hq
    have e := rv.length
    exact wpAny_bind (wpAny_holding (star_L ht.isList (I.ok.hd hc) hi (by omega) (by omega) (fin its rv hz)))
end

theorem sws_plain {t e : Expr} {l : Nat} {env : PySem.Env} (h : noComp e = true) : swapsWithSole [t] e l env = pure false := by
  show swapsWith e (some t) l env = pure false
  exact sw_plain h
/-! ### the text -/
theorem each_unstar {env : PySem.Env} : ∀ es : List Expr, (assignEach es env).map (·.2) = es.map (fun e => assign (unstar e) env)
  | [] => rfl
  | e :: es => by
    have ih := each_unstar (env := env) es
    cases e <;> (show _ :: (assignEach es env).map (·.2) = _ :: es.map (fun e => assign (unstar e) env); rw [ih] <;> rfl)
theorem each_star {env : PySem.Env} : ∀ es : List Expr, (assignEach es env).map (·.1) = es.map fun e => !noStar e
  | [] => rfl
  | e :: es => by
    have ih := each_star (env := env) es
    cases e <;> (show _ :: (assignEach es env).map (·.1) = _ :: es.map (fun e => !noStar e); rw [ih] <;> rfl)
theorem findIdx_map {α β : Type} (f : α → β) (p : β → Bool) (l : List α) : (l.map f).findIdx? p = l.findIdx? (p ∘ f) := by
  induction l with
  | nil => rfl
  | cons a r ih => simp [List.findIdx?_cons, ih]
theorem pgs_unstar {X : Cx} {es : List Expr} {t : TGs} (hu : (es.map unstar).all noStar = true) (h : PGs X (es.map unstar) t) : PGs X es t := by
  refine ⟨fun pins s σ H vs us Q I r q => ?_⟩
  have e : (assignEach es X.env).map (·.2) = (assignEach (es.map unstar) X.env).map (·.2) := by
    rw [each_unstar, each_unstar, List.map_map]
    refine List.map_congr_left fun x hx => ?_
    have := List.all_eq_true.mp hu (unstar x) (List.mem_map_of_mem hx)
    show assign (unstar x) X.env = assign (unstar (unstar x)) X.env
    cases hh : unstar x <;> first | rfl | (rw [hh] at this; exact absurd this (fun z => nomatch z))
  rw [e]
  exact h.run pins s σ H vs us Q I r q
theorem tgs_names {is : List Nat} {c : Ck} : ∀ {es : List Expr}, okTgs is c es = true → es.all noStar = true := by
  induction is with
  | nil =>
    intro es h
    cases es with
    | nil => rfl
    | cons e es => exact absurd (show false = true by cases e <;> exact h) Bool.false_ne_true
  | cons i is ih =>
    intro es h
    cases es with
    | nil => rfl
    | cons e es =>
      cases e with
      | Name x p =>
        have h' : (decide (c.N[i]? = some x) && c.loc x && okTgs is c es) = true := h
        rw [Bool.and_eq_true] at h'
        show (true && es.all noStar) = true
        rw [ih h'.2] <;> rfl
      | _ => exact absurd (show false = true from h) Bool.false_ne_true
section
variable {X : Cx} {k : Nat} {Φ : CallF} {pos : Pos}
theorem Repl.append {K : PySem.W.Frag} {mg : Str → Option Value} {H : Hp} {φ : Ad} {S : Cells} {vs ws : List V} {ds es : List D} (h : Repl K mg H φ S vs ds) (h2 : Repl K mg H φ S ws es) : Repl K mg H φ S (vs ++ ws) (ds ++ es) := by
  induction h with
  | nil => exact h2
  | cons a _ ih => exact .cons a ih
theorem ss_star {c : Ck} (G : GC c X k Φ) {is : List Nat} {at_ kk : Nat} {ts : List Expr} {p : Pos} {e : Expr} {f : Env → Cells → R D} (h : PE X e (TEv X.K X.mg f)) (h1 : okTgs is c (ts.map unstar) = true) (h2 : starAt ts = some at_) (h3 : noComp e = true) (h4 : noTup e = true) :
    PS X (.Assign [.Tuple ts kk p] e pos) (TSv X.K X.mg fun ρ S => (f ρ S).toF ρ fun d S => match val S d with
      | some v => match seqOf v with
        | some ds => if is.length ≤ ds.length + 1 then
            match asgs is (ds.take at_ ++ [.ref S.length] ++ ds.drop (ds.length - (is.length - 1 - at_))) ρ with
            | some ρ => .next ρ (S ++ [⟨.mu, .lst ((ds.drop at_).take (ds.length - (is.length - 1)))⟩])
            | none => .stuck
          else .stuck
        | none => .stuck
      | none => .stuck) := by
  obtain ⟨T, l1, _⟩ := tgs_ok G is _ h1
  have n1 := tgs_names h1
  have el : (assignEach ts X.env).length = is.length := by
    have := congrArg List.length (each_unstar (env := X.env) ts)
    have l2 := congrArg List.length (each_unstar (env := X.env) (ts.map unstar))
    simp only [List.length_map] at this l2
    rw [this, ← l1, l2]
  have es : (assignEach ts X.env).findIdx? (·.1) = some at_ := by
    have := findIdx_map (·.1) (fun b : Bool => b) (assignEach ts X.env)
    rw [each_star, findIdx_map] at this
    exact this.symm.trans h2
  have hi : at_ < is.length := by
    obtain ⟨q, _⟩ := List.findIdx?_eq_some_iff_getElem.mp es
    rw [el] at q; exact q
  refine (ps_asg h (pg_star G.g.calm (pgs_unstar n1 T.pg) el es hi) (hs := sws_plain h3) (hw := by cases e <;> first | rfl | exact nomatch h4) (h1 := rfl)).imp fun E σ H ⟨φ, ρ, S, st, re, q⟩ => ⟨φ, ρ, S, st, re, (toF_ans q).mono fun v H1 ⟨φ1, S1, d, s1, r1, k1, q1⟩ => ?_⟩
  cases ev : val S1 d with
  | none => rw [ev] at q1; exact q1.elim
  | some w =>
    rw [ev] at q1
    dsimp only at q1
    cases es2 : seqOf w with
    | none => rw [es2] at q1; exact q1.elim
    | some ds =>
      rw [es2] at q1
      dsimp only at q1
      obtain ⟨a, vs, e1, e2, e3⟩ := (val_vw s1 r1 ev).seq es2
      subst e1
      split at q1
      · rename_i hle
        cases ea : asgs is (ds.take at_ ++ [.ref S1.length] ++ ds.drop (ds.length - (is.length - 1 - at_))) ρ with
        | none => rw [ea] at q1; exact q1.elim
        | some ρ' =>
          rw [ea] at q1
          refine ⟨a, vs, rfl, e2.symm, by rw [e3.length]; exact hle, fun D hD => ?_⟩
          have e4 : Dats X.K X.mg H1 (Mu φ1 S1) ((vs.drop at_).take (vs.length - (is.length - 1))) ((ds.drop at_).take (ds.length - (is.length - 1))) := by
            rw [e3.length]; exact (e3.drop at_).take _
          obtain ⟨s2, r2, k2⟩ := lay_lst s1 hD e4
          have e5 := e3.stay k2.stay
          refine T.to s2 ((re.keep k1).keep k2) ?_ ea fun σ' re' _ => q1 σ' _ _ s2 k2 re'
          have := ((e5.take at_).repl.append (.cons r2 .nil)).append (e5.drop (ds.length - (is.length - 1 - at_))).repl
          rw [e3.length] at this ⊢
          exact this
      · exact q1.elim
end
section
variable {k : Nat} {Φ : CallF} {W : Nat}
theorem assign_sub {o i : Expr} {p : Pos} {env : PySem.Env} (h : noSlice i = true) (v : Value) : assign (.Subscript o i p) env v = (do
      let ov ← holding [v] (eval o env)
      let iv ← holding [v, ov] (eval i env)
      standAt p
      holding [v, ov, iv] (setItem ov iv v)
      release [v, ov, iv] []) := by
  cases i <;> first | rfl | exact nomatch h
theorem sws_sub {o i e : Expr} {p : Pos} {l : Nat} {env : PySem.Env} : swapsWithSole [.Subscript o i p] e l env = pure false := by
  show swapsWith e (some (.Subscript o i p)) l env = pure false
  cases e <;> rfl
mutual
theorem sS : ∀ x : Sx, SS k Φ W x
  | .expr e => ⟨fun {c X st} G hx hk h => by
      unfold okS at h
      split at h
      · rw [Bool.and_eq_true] at h
        exact (ss_expr ((sX e).e G h.2) (sw_plain h.1)).to fun ρ S => by rw [evS]
      · cases h⟩
  | .ret e => ⟨fun {c X st} G hx hk h => by
      unfold okS at h
      split at h
      · exact (ss_ret ((sX e).e G h)).to fun ρ S => by rw [evS]
      · cases h⟩
  | .retN => ⟨fun {c X st} G hx hk h => by
      unfold okS at h
      split at h
      · exact ss_retN.to fun ρ S => by rw [evS]
      · cases h⟩
  | .set i e => ss_setX
  | .unp is e => ⟨fun {c X st} G hx hk h => by
      unfold okS at h
      split at h
      · rename_i ts kk p x spos
        simp only [Bool.and_eq_true] at h
        obtain ⟨⟨⟨h1, h2⟩, h3⟩, h4⟩ := h
        exact (ss_asg ((sX e).e G h4) (tg_ok G h3) (sws_plain h1) (by cases x <;> first | rfl | exact nomatch h2) rfl).to fun ρ S => by
          rw [evS]
          congr 1
          funext d S
          cases d <;> rfl
      · cases h⟩
  | .star is at_ e => ⟨fun {c X st} G hx hk h => by
      unfold okS at h
      split at h
      · simp only [Bool.and_eq_true, decide_eq_true_eq] at h
        obtain ⟨⟨⟨⟨h1, h2⟩, h3⟩, h4⟩, h5⟩ := h
        exact (ss_star G ((sX e).e G h5) h3 h4 h1 h2).to fun ρ S => by rw [evS] <;> rfl
      · cases h⟩
  | .seti o i e => ⟨fun {c X st} G hx hk h => by
      unfold okS at h
      split at h
      · simp only [Bool.and_eq_true] at h
        obtain ⟨⟨⟨h1, h2⟩, h3⟩, h4⟩ := h
        exact (ss_seti ((sX o).e G h2) ((sX i).e G h3) ((sX e).e G h4) (assign_sub h1) sws_sub rfl rfl).to fun ρ S => by rw [evS]
      · cases h⟩
  | .aug i op e => ⟨fun {c X st} G hx hk h => by
      unfold okS at h
      split at h
      · simp only [Bool.and_eq_true, decide_eq_true_eq] at h
        obtain ⟨⟨⟨h1, h2⟩, rfl⟩, h4⟩ := h
        obtain ⟨l1, l2⟩ := G.loc h2
        exact (ss_aug G.g.nd op (G.nm h1) l1 l2 ((sX e).e G h4)).to fun ρ S => by rw [evS] <;> rfl
      · cases h⟩
  | .ite t a b => ⟨fun {c X st} G hx hk h => by
      unfold okS at h
      split at h
      · simp only [Bool.and_eq_true] at h
        obtain ⟨⟨h1, h2⟩, h3⟩ := h
        exact (ss_if ((sX t).t G h1).1 ((sSs a).s G hx hk h2) ((sSs b).s G hx hk h3)).to fun ρ S => by rw [evS] <;> rfl
      · cases h⟩
  | .for tg it b => ⟨fun {c X st} G hx hk h => by
      unfold okS at h
      split at h
      · simp only [Bool.and_eq_true] at h
        obtain ⟨⟨⟨h1, h2⟩, h3⟩, h4⟩ := h
        exact (ss_for (by rw [hx]; exact PassesOwn.never) G.g.calm ((sIt it).i G h1) (tg_ok G h3) ((sSs b).s G hx hk h4) (plain_iter h2)).to fun ρ S => by rw [evS] <;> rfl
      · cases h⟩
  | .while t b => ⟨fun {c X st} G hx hk h => by
      unfold okS at h
      split at h
      · simp only [Bool.and_eq_true] at h
        exact (ss_while (W := W) (by rw [hx]; exact PassesOwn.never) ((sX t).t G h.1).1 ((sSs b).s G hx hk h.2)).to fun ρ S => by rw [evS] <;> rfl
      · cases h⟩
  | .pass => ⟨fun {c X st} G hx hk h => by
      unfold okS at h
      split at h
      · exact ss_pass.to fun ρ S => by rw [evS]
      · exact (ps_doc.imp fun D σ H ⟨φ, ρ, S, st, re, q⟩ => AnsS.here q st re : PS X _ (TSv X.K X.mg fun ρ S => .next ρ S)).to fun ρ S => by rw [evS]
      · cases h⟩
  | .cont => ⟨fun {c X st} G hx hk h => by
      unfold okS at h
      split at h
      · exact ss_cont.to fun ρ S => by rw [evS]
      · cases h⟩
  | .brk => ⟨fun {c X st} G hx hk h => by
      unfold okS at h
      split at h
      · exact ss_brk.to fun ρ S => by rw [evS]
      · cases h⟩
  | .never => ⟨fun {c X st} G hx hk h => ss_never.to fun ρ S => by rw [evS]⟩
theorem sSs : ∀ x : Sxs, SSs k Φ W x
  | .nil => ⟨fun {c X st} G hx hk h => by
      unfold okSs at h
      cases st with
      | nil => exact ss_nil.to fun ρ S => by rw [evSs]
      | cons _ _ => cases h⟩
  | .cons x xs => ⟨fun {c X st} G hx hk h => by
      unfold okSs at h
      cases st with
      | nil => cases h
      | cons s ss =>
        rw [Bool.and_eq_true] at h
        exact (ss_cons ((sS x).s G hx hk h.1) ((sSs xs).s G hx hk h.2)).to fun ρ S => by rw [evSs]⟩
end
end
end VS

/-! VS, part T: the defs of a text keep what the interpreter tells. -/
namespace VS
open PySem PySem.Spec L2 PyProof.Rows

/-- a def of the text -/
structure DefT where
  x : Str
  fn : Fn
  st : Stmt
  N : List Str
  ps : List Str
/-- the looks at a whole text -/
structure Txt where
  ds : List DefT
  bs : List Str
  kw : List (Str × List Str × List Nat)
def Txt.fs (T : Txt) : List Str := T.ds.map (·.x)
def Txt.find (T : Txt) (f : Str) : Option DefT := T.ds.find? fun d => d.x == f
def Txt.prog (T : Txt) (f : Str) : Option Fn := (T.find f).map (·.fn)
def Txt.ck (T : Txt) (d : DefT) : Ck := ⟨d.N, defScope d.st, fun _ => true, T.fs, T.bs, T.kw⟩
def okDef (T : Txt) (d : DefT) : Bool :=
  C8.scC d.N d.ps (defScope d.st) && decide (d.fn.np = d.ps.length) && decide (d.fn.ns = d.N.length) && okSs d.fn.body (T.ck d) (defBody d.st)
def okKw (T : Txt) (p : Str × List Str × List Nat) : Bool :=
  match T.find p.1 with
  | some d => decide (p.2.2.length = d.ps.length) && p.2.2.all fun i => decide (i < p.2.1.length)
  | none => false
def okTxt (T : Txt) : Bool := T.ds.all (okDef T) && decide T.fs.Nodup && T.kw.all (okKw T)

/-- how a def binds keywords -/
def KwB (K : PySem.W.Frag) (fd : FuncData) (ps : List Str) (ks : List Str) (pm : List Nat) : Prop :=
  ∀ (s : Shared) (us : List Value), K.In s.heap → us.length = ks.length → BindsTo s fd ⟨[], ks.zip us⟩ (ps.zip (pm.map fun i => us.getD i .none))
/-- the def stands behind the top -/
structure Stands (K : PySem.W.Frag) (mg : Str → Option Value) (T : Txt) (d : DefT) : Prop where
  to : ∃ (f : Addr) (fd : FuncData), mg d.x = some (.ref f) ∧ L2.Fun K d.x d.x d.st f fd ∧ L2.Binds K fd d.ps [] ∧ ∀ p ∈ T.kw, p.1 = d.x → KwB K fd d.ps p.2.1 p.2.2

theorem stand_of {K : PySem.W.Frag} {mg : Str → Option Value} {T : Txt} {d : DefT} {f : Addr} {fd : FuncData} (m : mg d.x = some (.ref f)) (F : L2.Fun K d.x d.x d.st f fd)
    (hb : ∀ (kV doc pm : Value) (an : Option Addr) (cd ct : Value) (us : List Value), us.length = d.ps.length → bindArgs (PySem.W.fnOf d.x d.x (defArgs d.st) (defBody d.st) (defScope d.st) .none kV doc pm an cd ct) ⟨us, []⟩ = pure (d.ps.zip us))
    (hk : ∀ p ∈ T.kw, p.1 = d.x → ∀ (kV doc pm : Value) (an : Option Addr) (cd ct : Value) (us : List Value), us.length = p.2.1.length →
      bindArgs (PySem.W.fnOf d.x d.x (defArgs d.st) (defBody d.st) (defScope d.st) .none kV doc pm an cd ct) ⟨[], p.2.1.zip us⟩ = pure (d.ps.zip (p.2.2.map fun i => us.getD i .none))) : Stands K mg T d := by
  refine ⟨f, fd, m, F, F.binds hb, fun p hp hx => ?_⟩
  obtain ⟨oc, od, kV, doc, pm, an, cd, ct, osl, rfl, e1, e2⟩ := F.ex
  exact fun s us kin hl => .of_eq (hk p hp hx kV doc pm an cd ct us hl)
section
variable {P : Program} {w : World} {K : PySem.W.Frag} {mg : Str → Option Value} {base : Heap}
/-- a def by its body, no guard about -/
theorem fn_g {k : Nat} {f : Addr} {x qual : Str} {st : Stmt} {fd : FuncData} {N ps : List Str} {sp : List V → Hp → VK → Prop} (F : L2.Fun K x qual st f fd) (S : FnScope N ps (defScope st)) (len : ∀ vs H Q, sp vs H Q → vs.length = ps.length)
    (body : ∀ (cd : Value) (A : Around) (outer : List PySem.Env) (s : Shared) (H : Hp) (vs : List V) (Q : VK), Room k (A.deeper (envOfC qual (defScope st) s.heap.objs.size f cd)) → A.guards = some [] → sp vs H Q →
      ∃ t, PSs (cxOf CX0 P w K mg base N qual (defScope st) f cd A outer s H E0).nox (defBody st) t ∧ t { nx := fun _ H' => Q .non H', rt := Q } (start N vs) H) : FnG P w K mg base (k + 1) f fd ps sp := by
  obtain ⟨oc, od, kV, doc, pm, an, cd, ct, osl, rfl, e1, e2⟩ := F.ex
  refine ⟨len, fun A outer s H args us vs Q room gd env0 bind rel h => ?_⟩
  have el := len _ _ _ h
  have kIn : K.In s.heap := env0.mod.kin.keeps fun b o e => (env0.bs b o e).1
  have noLim : s.heap.NoLimit := env0.mod.nolimit.keeps fun b o e => (env0.bs b o e).1
  have kinds : ∀ y ∈ ps.zip us, (defScope st).names.lookup y.1 = some .local ∨ ((defScope st).names.lookup y.1 = some .cell ∧ ((cellsFrom (s.heap.objs.size + 1) (defScope st).names []).lookup y.1).isSome = true) := by
    rintro ⟨n, v⟩ hy
    rcases S.par n (List.of_mem_zip hy).1 with q | q
    · exact .inl q
    · exact .inr ⟨q, PySem.W.cellsFrom_some _ _ _ (.inl q)⟩
  refine codeAny_call_function room.depth (kIn _ _ e1) rfl S.co S.gen rfl (PySem.W.codeRec_of kIn e2) (bind _ _ _ _ ?_)
  refine wpAny_newFunctionEnv_cells S.kind kinds fun env ee s1 x => ?_
  subst ee
  refine ⟨noLim.keeps x.toInCall.keep, codeAny_func ?_⟩
  obtain ⟨t, ht, q⟩ := body cd A outer s H vs Q (room.deeper _) gd h
  have I : Inv (cxOf CX0 P w K mg base N qual (defScope st) f cd A outer s H E0) [] (start N vs) H s1 := inv_start S room.hd env0 el rel x
  refine wpAny_mono (ht.nox.run [] s1 (start N vs) H _ I q) (fun fl s2 hs => ?_) fun e s2 hs => hs
  have fin : ∀ {σ2 : L2.St} {H2 : Hp} {v : V} {u : Value}, Inv (cxOf CX0 P w K mg base N qual (defScope st) f cd A outer s H E0) [] σ2 H2 s2 → RelV v u → Q v H2 → CE outer P w H s Q u s2 := fun {σ2 H2 v u} J rv q2 => ⟨v, H2, J.os, J.bare, J.base, J.hok, rv, q2⟩
  match fl, hs with
  | .ret u, ⟨v, σ2, H2, J, rv, q2⟩ => exact fin J rv q2
  | .next, ⟨σ2, H2, J, q2⟩ => exact fin (v := V.non) (u := Value.none) J rfl q2
  | .brk, ⟨_, _, _, q2⟩ => exact False.elim q2
  | .cont, ⟨_, _, _, q2⟩ => exact False.elim q2

theorem start_renv {H : Hp} {φ : Ad} {S : Cells} {vs : List V} {ds : List D} (r : Repl K mg H φ S vs ds) (m : Nat) : REnv K mg H φ S (vs.map some ++ List.replicate m none) (ds.map some ++ List.replicate m none) := by
  induction r with
  | nil =>
    refine ⟨(by simp), fun i d h => ?_⟩
    have h : (List.replicate m (none : Option D))[i]? = some (some d) := h
    rw [List.getElem?_replicate] at h
    split at h <;> cases h
  | cons a _ ih =>
    refine ⟨congrArg (· + 1) ih.len, fun i d h => ?_⟩
    cases i with
    | zero => cases h; exact ⟨_, rfl, a⟩
    | succ i => exact ih.at_ i d h
/-- a def's answer, from its body's -/
theorem ret_ans {H : Hp} {φ : Ad} {S : Cells} {r : FR} {Q : VK} (st : StOk K mg H φ S) (h : Ans K mg (retR S.length r) H φ S Q) : AnsS K mg r H φ S { nx := fun _ H' => Q .non H', rt := Q } := by
  cases r with
  | next ρ S1 =>
    intro σ1 H1 φ1 s1 k1 re1
    exact h .non H1 _ (s1.take S.length) (.dat .non) (k1.take (by rw [st.len]))
  | ret d S1 =>
    intro v H1 φ1 s1 k1 r1
    exact Ans.norm st h v H1 φ1 s1 r1 k1
  | brk ρ S1 => exact h.elim
  | cont ρ S1 => exact h.elim
  | exn x ρ S1 => exact h.elim
  | stuck => exact h.elim

theorem Txt.find_of {T : Txt} (h : okTxt T = true) {d : DefT} (hd : d ∈ T.ds) : T.find d.x = some d := by
  unfold okTxt at h
  simp only [Bool.and_eq_true, decide_eq_true_eq] at h
  have nd := h.1.2
  unfold Txt.fs at nd
  unfold Txt.find
  generalize T.ds = l at nd hd
  induction l with
  | nil => cases hd
  | cons a r ih =>
    rw [List.find?_cons]
    rw [List.map_cons, List.nodup_cons] at nd
    rcases List.mem_cons.mp hd with rfl | hr
    · simp
    · have : a.x ≠ d.x := fun e => nd.1 (by rw [e]; exact List.mem_map_of_mem hr)
      rw [show (a.x == d.x) = false by simpa using this]
      exact ih nd.2 hr
theorem callF_len {T : Txt} {W : Nat} (h : okTxt T = true) {d : DefT} (hd : d ∈ T.ds) (k : Nat) (ds : List D) (S : Cells) (hl : ds.length ≠ d.ps.length) : callF T.prog W k d.x ds S = .stuck := by
  cases k with
  | zero => rfl
  | succ k =>
    have e : T.prog d.x = some d.fn := by unfold Txt.prog; rw [T.find_of h hd] <;> rfl
    have ok : okDef T d = true := by
      unfold okTxt at h
      simp only [Bool.and_eq_true, List.all_eq_true] at h
      exact h.1.1 d hd
    unfold okDef at ok
    simp only [Bool.and_eq_true, decide_eq_true_eq] at ok
    unfold callF
    rw [e]
    dsimp only
    rw [if_neg (by rw [ok.1.1.2]; exact hl)]
/-- every def, with so many calls -/
theorem all_g {T : Txt} {W : Nat} (h : okTxt T = true) (st : ∀ d ∈ T.ds, Stands K mg T d) (nb : ∀ x ∈ T.bs, mg x = none) : ∀ k : Nat, ∀ d ∈ T.ds, ∀ (f : Addr) (fd : FuncData), mg d.x = some (.ref f) → L2.Fun K d.x d.x d.st f fd →
    FnG P w K mg base k f fd d.ps (spF K mg (callF T.prog W k) d.x d.ps.length) := by
  intro k
  induction k with
  | zero =>
    intro d hd f fd hm F
    have no : ∀ vs H Q, ¬ spF K mg (callF T.prog W 0) d.x d.ps.length vs H Q := fun vs H Q ⟨_, φ, S, ds, s, r, a⟩ => a
    exact ⟨fun vs H Q q => absurd q (no vs H Q), fun A outer s H args us vs Q _ _ _ _ _ q => absurd q (no vs H Q)⟩
  | succ k ih =>
    intro d hd f fd hm F
    have ok : okDef T d = true := by
      unfold okTxt at h
      simp only [Bool.and_eq_true, List.all_eq_true] at h
      exact h.1.1 d hd
    unfold okDef at ok
    simp only [Bool.and_eq_true, decide_eq_true_eq] at ok
    obtain ⟨⟨⟨o1, o2⟩, o3⟩, o4⟩ := ok
    have SC := C8.fnScope_by o1
    refine fn_g F SC (fun vs H Q q => q.1) fun cd A outer s H vs Q room gd q => ?_
    obtain ⟨hl, φ, S, ds, sok, r, a⟩ := q
    -- what may be called
    have calls : ∀ x ∈ T.fs, CallOk P w K mg base k (callF T.prog W k) x := by
      intro x hx
      obtain ⟨d', hd', rfl⟩ := List.mem_map.mp hx
      obtain ⟨f', fd', m', F', B', _⟩ := (st d' hd').to
      exact ⟨f', fd', d'.ps, m', F'.kp, B', fun ds S hne => callF_len h hd' k ds S hne, ih d' hd' f' fd' m' F'⟩
    have kws : ∀ p ∈ T.kw, KwOk P w K mg base k (callF T.prog W k) p.1 0 p.2.1 p.2.2 := by
      intro p hp
      have okp : okKw T p = true := by
        unfold okTxt at h
        simp only [Bool.and_eq_true, List.all_eq_true] at h
        exact h.2 p hp
      unfold okKw at okp
      split at okp
      · rename_i d' ed
        have hd' : d' ∈ T.ds := List.mem_of_find?_eq_some ed
        have ex : d'.x = p.1 := by
          have := List.find?_some ed
          simpa using this
        simp only [Bool.and_eq_true, decide_eq_true_eq, List.all_eq_true] at okp
        obtain ⟨f', fd', m', F', B', KB⟩ := (st d' hd').to
        rw [ex] at m'
        have G' := ih d' hd' f' fd' (by rw [ex]; exact m') F'
        rw [ex] at G'
        refine ⟨f', fd', d'.ps, m', F'.kp, okp.1, fun i hi => by simpa using okp.2 i hi, fun s us ws kin e1 e2 => ?_, G'⟩
        have : us = [] := List.length_eq_zero_iff.mp e1
        subst this
        exact KB p hp ex.symm s ws kin e2
      · cases okp
    have G : GC (T.ck d) (cxOf CX0 P w K mg base d.N d.x (defScope d.st) f cd A outer s H E0).nox k (callF T.prog W k) :=
      { g := ⟨rfl, SC.nd, room, gd, calls, nb⟩
        N := rfl
        sc := rfl
        fn := fun _ _ => rfl
        kws := kws }
    refine ⟨_, (sSs (W := W) d.fn.body).s G rfl SC.kind o4, φ, _, S, sok, start_renv r (d.N.length - vs.length), ?_⟩
    have e : T.prog d.x = some d.fn := by unfold Txt.prog; rw [T.find_of h hd] <;> rfl
    unfold callF at a
    rw [e] at a
    dsimp only at a
    have hds : ds.length = d.fn.np := by rw [o2, ← hl, r.length]
    rw [if_pos hds] at a
    have en : d.fn.ns - d.fn.np = d.N.length - vs.length := by rw [o3, o2, hl]
    rw [en] at a
    exact ret_ans sok a
end
end VS

/-! VS, part U: the law's own call. -/
namespace VS
open PySem PySem.Spec L2 PyProof.Rows

/-- the law is called on its script, at the heap behind the top -/
theorem law_g {P : Program} {w : World} {K : PySem.W.Frag} {mg mb : Str → Option Value} {k : Nat} {fa a : Addr} {fd : FuncData} {x : Str} {sp : List V → Hp → VK → Prop} {s₁ : Shared} {vs : List Value} {ns : List Int}
    (kIn : K.In s₁.heap) (nsm : s₁.heap.Ns mainGlobals mg) (nsb : s₁.heap.Ns builtinsNs mb) (bb : ∀ x : Str, x ≠ "__name__" → mb x = bootBuiltins x) (nolim : s₁.heap.NoLimit) (nogen : s₁.gens = #[])
    (obj : s₁.heap.get? a = some { cls := .type "list", data := .seq vs.toArray }) (whole : IntsAre vs ns) (fits : ns.length ≤ sizeLine) (room : Room k callerA)
    (F : ∀ base : Heap, K.In base → base.Ns mainGlobals mg → FnG P w K mg base k fa fd [x] sp) (bind : ∀ (s : Shared) (u : Value), BindsTo s fd ⟨[u], []⟩ [(x, u)])
    (told : ∀ H : Hp, Only H → SqL K H a (ns.map V.int) → sp [.ref a] H fun v _ => v = .bl true) :
    codeAny (model P w) callerA (.call (.ref fa) ⟨[.ref a], []⟩) (fun r s2 => r = .ok (.ret (.bool true)) ∧ OldK s₁.heap s2.heap ∧ s2.os = s₁.os ∧ AllBare s2.gens) s₁ := by
  have rv := vals_ints whole
  have lv := whole.length
  have main : ∀ H : Hp, Only H → SqL K H a (ns.map V.int) → HOk P w H s₁.heap → (∀ b, H b ≠ none → b = a) → (H a ≠ none → K.lookup a = none) →
      codeAny (model P w) callerA (.call (.ref fa) ⟨[.ref a], []⟩) (fun r s2 => r = .ok (.ret (.bool true)) ∧ OldK s₁.heap s2.heap ∧ s2.os = s₁.os ∧ AllBare s2.gens) s₁ := by
    intro H only sq hok one own
    have hid : ∀ {b : Addr} {o : Obj}, s₁.heap.get? b = some o → H b = none → (hidT s₁.heap H).get? b = some o := fun e n => hidT_get e n
    have dict : ∀ {b : Addr} {o : Obj} {es : Array DictEntry} {ep : Nat}, s₁.heap.get? b = some o → o.data = .dict es ep → H b = none := by
      intro b o es ep e d
      cases q : H b with
      | none => rfl
      | some u =>
        obtain rfl : b = a := one b (by rw [q]; simp)
        rw [obj] at e
        cases e
        cases (show Data.seq vs.toArray _ = Data.dict es ep from d)
    have ns_ : ∀ {b : Addr} {m : Str → Option Value}, s₁.heap.Ns b m → (hidT s₁.heap H).Ns b m := fun {b m} ⟨o, es, ep, e, d, r⟩ => ⟨o, es, ep, hid e (dict e d), d, r⟩
    have kb : K.In (hidT s₁.heap H) := by
      intro b o e
      refine hid (kIn b o e) ?_
      cases q : H b with
      | none => rfl
      | some u =>
        obtain rfl : b = a := one b (by rw [q]; simp)
        rw [own (by rw [q]; simp)] at e
        cases e
    have md : Mod K mg (hidT s₁.heap H) := ⟨kb, ns_ nsm, ⟨mb, ns_ nsb, bb⟩, let ⟨mc, h1, h2⟩ := nolim; ⟨mc, ns_ h1, h2⟩⟩
    have ev : Env0 P w K mg (hidT s₁.heap H) callerA [] s₁ H := ⟨rfl, md, fun b o e => of_hidT e, Nat.le_of_eq (hidT_size _ _), trivial, fun b hb => absurd (show b ∈ ([] : List Addr) from hb) (by simp), hok, .of_eq nogen⟩
    refine codeAny_mono ((F _ kb (ns_ nsm)).run callerA [] s₁ H ⟨[.ref a], []⟩ [.ref a] [.ref a] _ room rfl ev (bind s₁ (.ref a)) (.cons rfl .nil) (told H only sq)) fun r s2 h => ?_
    match r, h with
    | .error e, h => exact False.elim h
    | .ok .next, h => exact False.elim h
    | .ok .brk, h => exact False.elim h
    | .ok .cont, h => exact False.elim h
    | .ok (.ret u), ⟨v, H2, os, bare, un, hok2, r2, q⟩ =>
      obtain rfl : v = V.bl true := q
      obtain rfl : u = Value.bool true := r2
      refine ⟨rfl, OldK.of_keep fun b o e => ?_, os, bare⟩
      cases q2 : H b with
      | none => exact un.keep b o e q2 (fun z => absurd (show b ∈ ([] : List Addr) from z) (by simp)) (by simp)
      | some u =>
        rcases only b with z | ⟨ob, xs, z⟩
        · rw [q2] at z
          cases z
        · have z2 := un.frzs b ob _ z
          have e1 := (hok b _ z).1
          rw [e] at e1
          cases e1
          exact (hok2 b _ z2).1
  cases hk : K.lookup a with
  | some o =>
    have e := kIn a o hk
    rw [obj] at e
    cases e
    exact main (fun _ => none) (fun _ => .inl rfl) (.inr ⟨_, vs.toArray, _, hk, rfl, rfl, rfl, (by rw [List.size_toArray, lv]; exact fits), (by simpa using rv)⟩) (fun b u z => nomatch (show (none : Option HO) = some u from z)) (fun b z => absurd rfl z) fun z => absurd rfl z
  | none =>
    refine main (fun b => if b = a then some (.frz { cls := .type "list", data := .seq vs.toArray } (.lst (ns.map V.int))) else none) (fun b => ?_) (.inl (.inr ⟨{ cls := .type "list", data := .seq vs.toArray }, if_pos rfl⟩)) (fun b u z => ?_) (fun b z => ?_) fun _ => hk
    · by_cases c : b = a
      · exact .inr ⟨_, _, if_pos c⟩
      · exact .inl (if_neg c)
    · by_cases c : b = a
      · cases (if_pos c).symm.trans z
        subst c
        exact ⟨obj, (by rw [List.length_map]; exact fits), vs, _, rv, obj⟩
      · cases (if_neg c).symm.trans z
    · by_cases c : b = a
      · exact c
      · exact absurd (if_neg c) z

theorem scr_rep {K : PySem.W.Frag} {mg : Str → Option Value} {H : Hp} {a : Addr} {ns : List Int} (h : SqL K H a (ns.map V.int)) : Rep K mg H ⟨[], []⟩ [] (.ref a) (.scr ns) := by
  refine .dat (.scr ?_)
  rcases h with h | h
  · exact .inl ⟨h, fun z => z.elim (fun ⟨n, c, h1, _⟩ => by simp at h1) fun z => nomatch z⟩
  · exact .inr h
/-- what is left of the law: the interpreter says True of each script -/
theorem walk_g {l : PySem.W.OpenLaw} {k W : Nat} {q : Program} {loose : List Str} {XP : (Str → Option Value) → Heap → Prop} {YP : World → Heap → Prop} {d : DefRec} {K : Params → PySem.W.Frag} {T : Txt} {D : DefT} {x : Str}
    (hn : l.most = some 63) (hdf : d.params.defaults = []) (room : Room k callerA) (hY : ∀ (w : World) (h : Heap), YP w h → (K w.params).In h) (ok : okTxt T = true) (hD : D ∈ T.ds) (hps : D.ps = [x]) (hx : D.x = d.name)
    (hs : ∀ (w : World) (mg : Str → Option Value) (h : Heap), (K w.params).In h → h.Ns mainGlobals mg → (∀ D ∈ T.ds, Stands (K w.params) mg T D) ∧ ∀ x ∈ T.bs, mg x = none)
    (hb : ∀ (K : PySem.W.Frag) (f : Addr) (fd : FuncData), L2.Fun K D.x D.x D.st f fd → ∀ (s : Shared) (u : Value), BindsTo s fd ⟨[u], []⟩ [(x, u)])
    (law : ∀ ns : List Int, ns.length ≤ 63 → (∀ z ∈ ns, Builtin.Int.intBits z ≤ 1048576) → ∃ S, callF T.prog W k D.x [.scr ns] [] = .ok (.bl true) S) :
    PySem.W.WalkO q loose XP YP l.row.toRowW d [] (fun f vs => PySem.call f vs) := by
  refine Att.attach_callB hn hdf fun w s₀ s₁ mg mb fa o pm cd doc a vs ns G Y ho hd hcd hmg hobj hints hlen hbits hg => ?_
  have KX := hY w _ Y
  obtain ⟨st, nb⟩ := hs w mg _ KX G.T.g
  obtain ⟨f, fd, m, F, B, _⟩ := (st D hD).to
  have ef : f = fa := by
    rw [hx] at m
    have := m.symm.trans hmg
    cases this; rfl
  subst ef
  obtain ⟨S, hl⟩ := law ns hlen hbits
  refine law_g (x := x) (sp := spF (K w.params) mg (callF T.prog W k) D.x D.ps.length) KX G.T.g G.T.b G.T.builtins G.T.nolimit hg hobj hints (Nat.le_trans hlen (by decide)) room (fun base kb nsb => ?_) (hb _ f fd F) (fun H only sq => ?_)
  · have := all_g (P := l.prog) (w := w) (base := base) (W := W) ok st nb k D hD f fd m F
    rw [hps] at this ⊢
    exact this
  · refine ⟨by rw [hps] <;> rfl, ⟨[], []⟩, [], [.scr ns], ⟨rfl, List.nodup_nil, fun b z => (nomatch z), fun n a c h1 _ => by simp at h1⟩, .cons (scr_rep sq) .nil, ?_⟩
    rw [hl]
    exact fun v H' φ' s2 r2 k2 => rep_bl r2
end VS

/-! VS, part X: reckoning with the interpreter: each step looks at what came, never ahead. -/
namespace VS
open PySem

theorem call_def {T : Txt} (ok : okTxt T = true) {d : DefT} (hd : d ∈ T.ds) {k W : Nat} {ds : List D} {S : Cells} (hl : ds.length = d.fn.np) :
    callF T.prog W (k + 1) d.x ds S = retR S.length (evSs (callF T.prog W k) W d.fn.body (ds.map some ++ List.replicate (d.fn.ns - d.fn.np) none) S) := by
  have e : T.prog d.x = some d.fn := by unfold Txt.prog; rw [T.find_of ok hd] <;> rfl
  rw [callF, e]
  exact if_pos hl

/-! ### what hangs on a step, named -/
section
variable (Φ : CallF) (W : Nat)
def frzs2 (e : D) : R (List D) → R (List D) | .ok es S => .ok (e :: es) S | .exn x S => .exn x S | .stuck => .stuck
def frzs1 (ds : List D) : R D → R (List D) | .ok e S => frzs2 e (frzs ds S) | .exn x S => .exn x S | .stuck => .stuck
theorem frzs_nil {S : Cells} : frzs [] S = .ok [] S := rfl
theorem frzs_cons {d : D} {ds : List D} {S : Cells} : frzs (d :: ds) S = frzs1 ds (frz d S) := by
  rw [frzs]; unfold frzs1; cases frz d S with
  | ok e S => dsimp only [R.bind]; unfold frzs2; cases frzs ds S <;> rfl
  | exn x S => rfl
  | stuck => rfl
def es2 (d : D) : R (List D) → R (List D) | .ok ds S => .ok (d :: ds) S | .exn x S => .exn x S | .stuck => .stuck
def es1 (es : Exs) (ρ : Env) : R D → R (List D) | .ok d S => es2 d (evEs Φ es ρ S) | .exn x S => .exn x S | .stuck => .stuck
theorem x_nil {ρ : Env} {S : Cells} : evEs Φ .nil ρ S = .ok [] S := by rw [evEs]
theorem x_cons {e : Ex} {es : Exs} {ρ : Env} {S : Cells} : evEs Φ (.cons e es) ρ S = es1 Φ es ρ (evE Φ e ρ S) := by
  rw [evEs]; unfold es1; cases evE Φ e ρ S with
  | ok e S => dsimp only [R.bind]; unfold es2; cases evEs Φ es ρ S <;> rfl
  | exn x S => rfl
  | stuck => rfl
theorem x_k {d : D} {ρ : Env} {S : Cells} : evE Φ (.k d) ρ S = .ok d S := by rw [evE]
theorem x_v {i : Nat} {ρ : Env} {S : Cells} : evE Φ (.v i) ρ S = look ρ i S := by rw [evE]
theorem x_g {x : Str} {ρ : Env} {S : Cells} : evE Φ (.g x) ρ S = .ok (.glo x) S := by rw [evE]
def tup2 (n : Nat) : R (List D) → R D | .ok ds S => norm n (.need (decide (ds.length ≤ line)) (.ok (.tup ds) S)) | .exn x S => .exn x (S.take n) | .stuck => .stuck
def tup1 (n : Nat) : R (List D) → R D | .ok ds S => tup2 n (frzs ds S) | .exn x S => .exn x (S.take n) | .stuck => .stuck
theorem x_tup {es : Exs} {ρ : Env} {S : Cells} : evE Φ (.tup es) ρ S = tup1 S.length (evEs Φ es ρ S) := by
  rw [evE]; unfold tup1; cases evEs Φ es ρ S with
  | ok ds S1 => dsimp only [R.bind]; unfold tup2; cases frzs ds S1 <;> rfl
  | exn x S1 => rfl
  | stuck => rfl
def lst2 (n : Nat) : R (List D) → R D | .ok ds S => norm n (.need (decide (ds.length ≤ line)) (newL ds S)) | .exn x S => .exn x (S.take n) | .stuck => .stuck
def lst1 (n : Nat) : R (List D) → R D | .ok ds S => lst2 n (frzs ds S) | .exn x S => .exn x (S.take n) | .stuck => .stuck
theorem x_lst {es : Exs} {ρ : Env} {S : Cells} : evE Φ (.lst es) ρ S = lst1 S.length (evEs Φ es ρ S) := by
  rw [evE]; unfold lst1; cases evEs Φ es ρ S with
  | ok ds S1 => dsimp only [R.bind]; unfold lst2; cases frzs ds S1 <;> rfl
  | exn x S1 => rfl
  | stuck => rfl
def bin2 (n : Nat) (op : Bop) (x : D) : R D → R D | .ok y S => norm n (both x y S fun x y => binV op x y S) | .exn x S => .exn x (S.take n) | .stuck => .stuck
def bin1 (n : Nat) (op : Bop) (b : Ex) (ρ : Env) : R D → R D | .ok x S => bin2 n op x (evE Φ b ρ S) | .exn x S => .exn x (S.take n) | .stuck => .stuck
theorem x_bin {op : Bop} {a b : Ex} {ρ : Env} {S : Cells} : evE Φ (.bin op a b) ρ S = bin1 Φ S.length op b ρ (evE Φ a ρ S) := by
  rw [evE]; unfold bin1; cases evE Φ a ρ S with
  | ok x S1 => dsimp only [R.bind]; unfold bin2; cases evE Φ b ρ S1 <;> rfl
  | exn x S1 => rfl
  | stuck => rfl
def neg1 : R D → R D | .ok (.int i) S => .ok (.int (-i)) S | .ok _ _ => .stuck | .exn x S => .exn x S | .stuck => .stuck
theorem x_neg {a : Ex} {ρ : Env} {S : Cells} : evE Φ (.neg a) ρ S = neg1 (evE Φ a ρ S) := by
  rw [evE]; unfold neg1; cases evE Φ a ρ S with
  | ok x S1 => cases x <;> rfl
  | exn x S1 => rfl
  | stuck => rfl
def cmp2 (n : Nat) (op : Cop) (x : D) : R D → R D | .ok y S => norm n (both x y S fun x y => bR (cmpV op x y) S) | .exn x S => .exn x (S.take n) | .stuck => .stuck
def cmp1 (n : Nat) (op : Cop) (b : Ex) (ρ : Env) : R D → R D | .ok x S => cmp2 n op x (evE Φ b ρ S) | .exn x S => .exn x (S.take n) | .stuck => .stuck
theorem x_cmp {op : Cop} {a b : Ex} {ρ : Env} {S : Cells} : evE Φ (.cmp op a b) ρ S = cmp1 Φ S.length op b ρ (evE Φ a ρ S) := by
  rw [evE]; unfold cmp1; cases evE Φ a ρ S with
  | ok x S1 => dsimp only [R.bind]; unfold cmp2; cases evE Φ b ρ S1 <;> rfl
  | exn x S1 => rfl
  | stuck => rfl
def chain4 (n : Nat) (p : Cop) (y : D) : R D → R D | .ok z S => norm n (both y z S fun y z => bR (cmpV p y z) S) | .exn x S => .exn x (S.take n) | .stuck => .stuck
def chain3 (n : Nat) (p : Cop) (y : D) (c : Ex) (ρ : Env) (S : Cells) : Option Bool → R D | some true => chain4 n p y (evE Φ c ρ S) | some false => .ok (.bl false) (S.take n) | none => .stuck
def chainV (o : Cop) (x y : D) (S : Cells) : Option Bool := match val S x, val S y with | some a, some b => cmpV o a b | _, _ => none
def chain2 (n : Nat) (o p : Cop) (x : D) (c : Ex) (ρ : Env) : R D → R D | .ok y S => chain3 Φ n p y c ρ S (chainV o x y S) | .exn x S => .exn x (S.take n) | .stuck => .stuck
def chain1 (n : Nat) (o p : Cop) (b c : Ex) (ρ : Env) : R D → R D | .ok x S => chain2 Φ n o p x c ρ (evE Φ b ρ S) | .exn x S => .exn x (S.take n) | .stuck => .stuck
theorem x_chain {o p : Cop} {a b c : Ex} {ρ : Env} {S : Cells} : evE Φ (.chain o p a b c) ρ S = chain1 Φ S.length o p b c ρ (evE Φ a ρ S) := by
  rw [evE]; unfold chain1; cases evE Φ a ρ S with
  | ok x S1 =>
    dsimp only [R.bind]
    unfold chain2
    cases evE Φ b ρ S1 with
    | ok y S2 =>
      show norm _ (both _ _ _ _) = chain3 _ _ _ _ _ _ _ (chainV _ _ _ _)
      unfold both chainV
      cases val S2 x with
      | none => rfl
      | some x' =>
        cases val S2 y with
        | none => rfl
        | some y' =>
          dsimp only
          cases cmpV o x' y' with
          | none => rfl
          | some t =>
            cases t with
            | false => rfl
            | true =>
              dsimp only [R.bind, chain3]
              unfold chain4
              cases evE Φ c ρ S2 <;> rfl
    | exn x S2 => rfl
    | stuck => rfl
  | exn x S1 => rfl
  | stuck => rfl
def and2 (n : Nat) (b : Ex) (ρ : Env) (x : D) (S : Cells) : Option Bool → R D | some true => evE Φ b ρ (S.take n) | some false => norm n (.ok x S) | none => .stuck
def and1 (n : Nat) (b : Ex) (ρ : Env) : R D → R D | .ok x S => and2 Φ n b ρ x S (truth S x) | .exn x S => .exn x S | .stuck => .stuck
theorem x_and {a b : Ex} {ρ : Env} {S : Cells} : evE Φ (.and a b) ρ S = and1 Φ S.length b ρ (evE Φ a ρ S) := by
  rw [evE]; unfold and1; cases evE Φ a ρ S with
  | ok x S1 =>
    show truthR x S1 _ = and2 _ _ _ _ _ _ _
    unfold truthR
    cases truth S1 x with
    | none => rfl
    | some t => cases t <;> rfl
  | exn x S1 => rfl
  | stuck => rfl
def or2 (n : Nat) (b : Ex) (ρ : Env) (x : D) (S : Cells) : Option Bool → R D | some false => evE Φ b ρ (S.take n) | some true => norm n (.ok x S) | none => .stuck
def or1 (n : Nat) (b : Ex) (ρ : Env) : R D → R D | .ok x S => or2 Φ n b ρ x S (truth S x) | .exn x S => .exn x S | .stuck => .stuck
theorem x_or {a b : Ex} {ρ : Env} {S : Cells} : evE Φ (.or a b) ρ S = or1 Φ S.length b ρ (evE Φ a ρ S) := by
  rw [evE]; unfold or1; cases evE Φ a ρ S with
  | ok x S1 =>
    show truthR x S1 _ = or2 _ _ _ _ _ _ _
    unfold truthR
    cases truth S1 x with
    | none => rfl
    | some t => cases t <;> rfl
  | exn x S1 => rfl
  | stuck => rfl
def tr2 (n : Nat) (S : Cells) : Option Bool → R D | some t => .ok (.bl t) (S.take n) | none => .stuck
def tr1 (n : Nat) : R D → R D | .ok x S => tr2 n S (truth S x) | .exn x S => .exn x (S.take n) | .stuck => .stuck
def not2 (n : Nat) (S : Cells) : Option Bool → R D | some t => .ok (.bl (!t)) (S.take n) | none => .stuck
def not1 (n : Nat) : R D → R D | .ok x S => not2 n S (truth S x) | .exn x S => .exn x (S.take n) | .stuck => .stuck
theorem x_not {a : Ex} {ρ : Env} {S : Cells} : evE Φ (.not a) ρ S = not1 S.length (evE Φ a ρ S) := by
  rw [evE]; unfold not1; cases evE Φ a ρ S with
  | ok x S1 =>
    show norm _ (truthR x S1 _) = not2 _ _ _
    unfold truthR
    cases truth S1 x <;> rfl
  | exn x S1 => rfl
  | stuck => rfl
theorem x_test {n : Nat} {r : R D} : norm n (r.bind fun x S => truthR x S fun t => .ok (.bl t) S) = tr1 n r := by
  unfold tr1; cases r with
  | ok x S1 =>
    show norm _ (truthR x S1 _) = tr2 _ _ _
    unfold truthR
    cases truth S1 x <;> rfl
  | exn x S1 => rfl
  | stuck => rfl
def ite1 (a b : Ex) (ρ : Env) : R D → R D | .ok (.bl true) S => evE Φ a ρ S | .ok (.bl false) S => evE Φ b ρ S | .ok _ _ => .stuck | .exn x S => .exn x S | .stuck => .stuck
theorem x_ite {t a b : Ex} {ρ : Env} {S : Cells} : evE Φ (.ite t a b) ρ S = ite1 Φ a b ρ (tr1 S.length (evE Φ t ρ S)) := by
  rw [evE, x_test]; unfold ite1; cases tr1 S.length (evE Φ t ρ S) with
  | ok x S1 =>
    cases x <;> try rfl
    case bl t => cases t <;> rfl
  | exn x S1 => rfl
  | stuck => rfl
def int1 : R D → R D | .ok (.int i) S => .ok (.int i) S | .ok _ _ => .stuck | .exn x S => .exn x S | .stuck => .stuck
theorem x_int1 {a : Ex} {ρ : Env} {S : Cells} : evE Φ (.int1 a) ρ S = int1 (evE Φ a ρ S) := by
  rw [evE]; unfold int1; cases evE Φ a ρ S with
  | ok x S1 => cases x <;> rfl
  | exn x S1 => rfl
  | stuck => rfl
def ix2 (n : Nat) (x : D) : R D → R D | .ok y S => norm n (both x y S fun x y => ixV x y S) | .exn x S => .exn x (S.take n) | .stuck => .stuck
def ix1 (n : Nat) (b : Ex) (ρ : Env) : R D → R D | .ok x S => ix2 n x (evE Φ b ρ S) | .exn x S => .exn x (S.take n) | .stuck => .stuck
theorem x_ix {a b : Ex} {ρ : Env} {S : Cells} : evE Φ (.ix a b) ρ S = ix1 Φ S.length b ρ (evE Φ a ρ S) := by
  rw [evE]; unfold ix1; cases evE Φ a ρ S with
  | ok x S1 => dsimp only [R.bind]; unfold ix2; cases evE Φ b ρ S1 <;> rfl
  | exn x S1 => rfl
  | stuck => rfl
def sl3 (n : Nat) (x l : D) : R D → R D | .ok h S => norm n (one x S fun x => slV x l h S) | .exn x S => .exn x (S.take n) | .stuck => .stuck
def sl2 (n : Nat) (x : D) (h : Ex) (ρ : Env) : R D → R D | .ok l S => sl3 n x l (evE Φ h ρ S) | .exn x S => .exn x (S.take n) | .stuck => .stuck
def sl1 (n : Nat) (l h : Ex) (ρ : Env) : R D → R D | .ok x S => sl2 Φ n x h ρ (evE Φ l ρ S) | .exn x S => .exn x (S.take n) | .stuck => .stuck
theorem x_sl {a l h : Ex} {ρ : Env} {S : Cells} : evE Φ (.sl a l h) ρ S = sl1 Φ S.length l h ρ (evE Φ a ρ S) := by
  rw [evE]; unfold sl1; cases evE Φ a ρ S with
  | ok x S1 =>
    dsimp only [R.bind]
    unfold sl2
    cases evE Φ l ρ S1 with
    | ok y S2 => dsimp only [R.bind]; unfold sl3; cases evE Φ h ρ S2 <;> rfl
    | exn x S1 => rfl
    | stuck => rfl
  | exn x S1 => rfl
  | stuck => rfl
def isi1 (n : Nat) (t : String) : R D → R D | .ok x S => norm n (one x S fun x => bR (isiV t x) S) | .exn x S => .exn x (S.take n) | .stuck => .stuck
theorem x_isi {a : Ex} {t : String} {ρ : Env} {S : Cells} : evE Φ (.isi a t) ρ S = isi1 S.length t (evE Φ a ρ S) := by
  rw [evE]; unfold isi1; cases evE Φ a ρ S <;> rfl
def call1 (n : Nat) (f : Str) : R (List D) → R D | .ok ds S => norm n (Φ f ds S) | .exn x S => .exn x (S.take n) | .stuck => .stuck
theorem x_call {f : Str} {es : Exs} {ρ : Env} {S : Cells} : evE Φ (.call f es) ρ S = call1 Φ S.length f (evEs Φ es ρ S) := by
  rw [evE]; unfold call1; cases evEs Φ es ρ S <;> rfl
def callk1 (n : Nat) (f : Str) (pm : List Nat) : R (List D) → R D | .ok ds S => norm n (Φ f (pm.map fun i => ds.getD i .non) S) | .exn x S => .exn x (S.take n) | .stuck => .stuck
theorem x_callk {f : Str} {pm : List Nat} {es : Exs} {ρ : Env} {S : Cells} : evE Φ (.callk f pm es) ρ S = callk1 Φ S.length f pm (evEs Φ es ρ S) := by
  rw [evE]; unfold callk1; cases evEs Φ es ρ S <;> rfl
def blt1 (n : Nat) (b : Blt) : R (List D) → R D | .ok ds S => norm n (bltV b ds S) | .exn x S => .exn x (S.take n) | .stuck => .stuck
theorem x_blt {b : Blt} {es : Exs} {ρ : Env} {S : Cells} : evE Φ (.blt b es) ρ S = blt1 S.length b (evEs Φ es ρ S) := by
  rw [evE]; unfold blt1; cases evEs Φ es ρ S <;> rfl
def mth2 (n : Nat) (m : Mth) (x : D) : R (List D) → R D | .ok ds S => norm n (mthV m x ds S) | .exn x S => .exn x (S.take n) | .stuck => .stuck
def mth1 (n : Nat) (m : Mth) (es : Exs) (ρ : Env) : R D → R D | .ok x S => mth2 n m x (evEs Φ es ρ S) | .exn x S => .exn x (S.take n) | .stuck => .stuck
theorem x_mth {m : Mth} {o : Ex} {es : Exs} {ρ : Env} {S : Cells} : evE Φ (.mth m o es) ρ S = mth1 Φ S.length m es ρ (evE Φ o ρ S) := by
  rw [evE]; unfold mth1; cases evE Φ o ρ S with
  | ok x S1 => dsimp only [R.bind]; unfold mth2; cases evEs Φ es ρ S1 <;> rfl
  | exn x S1 => rfl
  | stuck => rfl
/-- a turn of a comprehension -/
def lcT2 (n : Nat) : R D → R (List D) | .ok d S => keep n (frz d S) | _ => .stuck
def lcT1 (elt : Ex) (n : Nat) (ρ : Env) : R Bool → R (List D) | .ok true S => lcT2 n (evE Φ elt ρ (S.take n)) | .ok false S => .ok [] (S.take n) | _ => .stuck
def lcTurn (elt : Ex) (w : List Nat) (tg : Tg) (ifs : Exs) (ρ : Env) (x : D) (S : Cells) : R (List D) :=
  match asg tg x (wipeE ρ w) with
  | some ρ => lcT1 Φ elt S.length ρ (evTs Φ ifs ρ S)
  | none => .stuck
def lc1 (n : Nat) (elt : Ex) (w : List Nat) (tg : Tg) (ifs : Exs) (ρ : Env) : R Walked → R D | .ok wk S => comp n wk (lcTurn Φ elt w tg ifs ρ) S | .exn x S => .exn x S | .stuck => .stuck
theorem x_lc {elt : Ex} {w : List Nat} {tg : Tg} {it : It} {ifs : Exs} {ρ : Env} {S : Cells} : evE Φ (.lc elt w tg it ifs) ρ S = lc1 Φ S.length elt w tg ifs ρ (evI Φ it ρ S) := by
  rw [evE]; unfold lc1; cases evI Φ it ρ S with
  | ok wk S1 =>
    show comp _ _ _ _ = comp _ _ _ _
    congr 1
    funext x S2
    unfold lcTurn
    cases asg tg x (wipeE ρ w) with
    | none => rfl
    | some ρ2 =>
      dsimp only
      cases evTs Φ ifs ρ2 S2 with
      | ok t S3 =>
        cases t with
        | false => rfl
        | true =>
          dsimp only [R.bind, R.only, if_pos]
          rw [if_pos rfl]
          show keep _ _ = lcT2 _ _
          unfold lcT2
          cases evE Φ elt ρ2 (S3.take S2.length) <;> rfl
      | exn x S3 => rfl
      | stuck => rfl
  | exn x S1 => rfl
  | stuck => rfl
theorem x_tsnil {ρ : Env} {S : Cells} : evTs Φ .nil ρ S = .ok true S := by rw [evTs]
def ts2 (S : Cells) : Option Bool → R Bool | some t => .ok t S | none => .stuck
def ts1 : R D → R Bool | .ok d S => ts2 S (truth S d) | .exn x S => .exn x S | .stuck => .stuck
theorem x_ts1 {e : Ex} {ρ : Env} {S : Cells} : evTs Φ (.cons e .nil) ρ S = ts1 (evE Φ e ρ S) := by
  rw [evTs]; unfold ts1; cases evE Φ e ρ S with
  | ok d S1 =>
    show (match truth S1 d with | some true => _ | some false => _ | none => _) = ts2 _ _
    cases truth S1 d with
    | none => rfl
    | some t =>
      cases t with
      | false => rfl
      | true => show evTs Φ .nil ρ S1 = _; rw [evTs] <;> rfl
  | exn x S1 => rfl
  | stuck => rfl
def seq1 (n : Nat) : R D → R Walked | .ok d S => hold n d S | .exn x S => .exn x S | .stuck => .stuck
theorem x_seq {e : Ex} {ρ : Env} {S : Cells} : evI Φ (.seq e) ρ S = seq1 S.length (evE Φ e ρ S) := by
  rw [evI]; unfold seq1; cases evE Φ e ρ S <;> rfl
def rng1 (n : Nat) : R D → R Walked | .ok (.int m) S => .need (decide (m < 4611686018427387904) && decide (-4611686018427387904 ≤ m)) (.ok (rngD 0 m.toNat, none) (S.take n)) | .ok _ _ => .stuck | .exn x S => .exn x S | .stuck => .stuck
theorem x_rng1 {e : Ex} {ρ : Env} {S : Cells} : evI Φ (.rng1 e) ρ S = rng1 S.length (evE Φ e ρ S) := by
  rw [evI]; unfold rng1; cases evE Φ e ρ S with
  | ok d S1 => cases d <;> rfl
  | exn x S1 => rfl
  | stuck => rfl
def enum2 : R Walked → R Walked | .ok w S => .ok (w.map enumD) S | .exn x S => .exn x S | .stuck => .stuck
def enum1 (n : Nat) : R D → R Walked | .ok d S => enum2 (holdL n d S) | .exn x S => .exn x S | .stuck => .stuck
theorem x_enum {e : Ex} {ρ : Env} {S : Cells} : evI Φ (.enum e) ρ S = enum1 S.length (evE Φ e ρ S) := by
  rw [evI]; unfold enum1; cases evE Φ e ρ S with
  | ok d S1 => dsimp only [R.bind]; unfold enum2; cases holdL S.length d S1 <;> rfl
  | exn x S1 => rfl
  | stuck => rfl

/-! ### statements -/
def sexpr (n : Nat) (ρ : Env) : R D → FR | .ok _ S => .next ρ (S.take n) | .exn x S => .exn x ρ S | .stuck => .stuck
theorem y_expr {e : Ex} {ρ : Env} {S : Cells} : evS Φ W (.expr e) ρ S = sexpr S.length ρ (evE Φ e ρ S) := by
  rw [evS]; unfold sexpr; cases evE Φ e ρ S <;> rfl
def sret (ρ : Env) : R D → FR | .ok d S => .ret d S | .exn x S => .exn x ρ S | .stuck => .stuck
theorem y_ret {e : Ex} {ρ : Env} {S : Cells} : evS Φ W (.ret e) ρ S = sret ρ (evE Φ e ρ S) := by
  rw [evS]; unfold sret; cases evE Φ e ρ S <;> rfl
theorem y_retN {ρ : Env} {S : Cells} : evS Φ W .retN ρ S = .ret .non S := by rw [evS]
def sset (i : Nat) (ρ : Env) : R D → FR | .ok d S => .next (ρ.set i (some d)) S | .exn x S => .exn x ρ S | .stuck => .stuck
theorem y_set {i : Nat} {e : Ex} {ρ : Env} {S : Cells} : evS Φ W (.set i e) ρ S = sset i ρ (evE Φ e ρ S) := by
  rw [evS]; unfold sset; cases evE Φ e ρ S <;> rfl
def sunp2 (S : Cells) : Option Env → FR | some ρ => .next ρ S | none => .stuck
def sunp (is : List Nat) (ρ : Env) : R D → FR | .ok (.tup ds) S => sunp2 S (asgs is ds ρ) | .ok _ _ => .stuck | .exn x S => .exn x ρ S | .stuck => .stuck
theorem y_unp {is : List Nat} {e : Ex} {ρ : Env} {S : Cells} : evS Φ W (.unp is e) ρ S = sunp is ρ (evE Φ e ρ S) := by
  rw [evS]; unfold sunp; cases evE Φ e ρ S with
  | ok d S1 =>
    cases d with
    | tup ds => dsimp only [R.toF]; unfold sunp2; cases asgs is ds ρ <;> rfl
    | _ => rfl
  | exn x S1 => rfl
  | stuck => rfl
def sseti4 (ρ : Env) (r : R D) : FR := match r with | .ok _ S => .next ρ S | .exn x S => .exn x ρ S | .stuck => .stuck
theorem sseti4_ok {ρ : Env} {d : D} {S : Cells} : sseti4 ρ (.ok d S) = .next ρ S := rfl
def sseti3 (n : Nat) (ρ : Env) (d o : D) : R D → FR | .ok i S => sseti4 ρ (norm n (setV o i d S)) | .exn x S => .exn x ρ (S.take n) | .stuck => .stuck
def sseti2 (n : Nat) (ρ : Env) (i : Ex) (d : D) : R D → FR | .ok o S => sseti3 n ρ d o (evE Φ i ρ S) | .exn x S => .exn x ρ (S.take n) | .stuck => .stuck
def sseti1 (n : Nat) (ρ : Env) (o i : Ex) : R D → FR | .ok d S => sseti2 Φ n ρ i d (evE Φ o ρ S) | .exn x S => .exn x ρ (S.take n) | .stuck => .stuck
theorem y_seti {o i e : Ex} {ρ : Env} {S : Cells} : evS Φ W (.seti o i e) ρ S = sseti1 Φ S.length ρ o i (evE Φ e ρ S) := by
  rw [evS]; unfold sseti1; cases evE Φ e ρ S with
  | ok d S1 =>
    dsimp only [R.bind]
    unfold sseti2
    cases evE Φ o ρ S1 with
    | ok o' S2 =>
      dsimp only [R.bind]
      unfold sseti3
      cases evE Φ i ρ S2 with
      | ok i' S3 => show R.toF _ (norm _ (setV o' i' d S3)) _ = _; dsimp only; unfold sseti4; cases norm S.length (setV o' i' d S3) <;> rfl
      | exn x S3 => rfl
      | stuck => rfl
    | exn x S2 => rfl
    | stuck => rfl
  | exn x S1 => rfl
  | stuck => rfl
def starV (is : List Nat) (k : Nat) (ρ : Env) (d : D) (S : Cells) : FR :=
  match val S d with
  | some v => match seqOf v with
    | some ds => if is.length ≤ ds.length + 1 then
        match asgs is (ds.take k ++ [.ref S.length] ++ ds.drop (ds.length - (is.length - 1 - k))) ρ with
        | some ρ => .next ρ (S ++ [⟨.mu, .lst ((ds.drop k).take (ds.length - (is.length - 1)))⟩])
        | none => .stuck
      else .stuck
    | none => .stuck
  | none => .stuck
def sstar (is : List Nat) (k : Nat) (ρ : Env) : R D → FR | .ok d S => starV is k ρ d S | .exn x S => .exn x ρ S | .stuck => .stuck
theorem y_star {is : List Nat} {k : Nat} {e : Ex} {ρ : Env} {S : Cells} : evS Φ W (.star is k e) ρ S = sstar is k ρ (evE Φ e ρ S) := by
  rw [evS]; unfold sstar starV; cases evE Φ e ρ S <;> rfl
def site (a b : Sxs) (ρ : Env) : R D → FR | .ok (.bl true) S => evSs Φ W a ρ S | .ok (.bl false) S => evSs Φ W b ρ S | .ok _ _ => .stuck | .exn x S => .exn x ρ S | .stuck => .stuck
theorem y_ite {t : Ex} {a b : Sxs} {ρ : Env} {S : Cells} : evS Φ W (.ite t a b) ρ S = site Φ W a b ρ (tr1 S.length (evE Φ t ρ S)) := by
  rw [evS]; unfold evT; rw [x_test]; unfold site; cases tr1 S.length (evE Φ t ρ S) with
  | ok x S1 =>
    cases x <;> try rfl
    case bl t => cases t <;> rfl
  | exn x S1 => rfl
  | stuck => rfl
def forTurn (tg : Tg) (b : Sxs) (x : D) (ρ : Env) (S : Cells) : FR := match asg tg x ρ with | some ρ => evSs Φ W b ρ S | none => .stuck
def sfor (tg : Tg) (b : Sxs) (ρ : Env) : R Walked → FR | .ok w S => forE w.2 (forT (forTurn Φ W tg b) w.1 ρ S) | .exn x S => .exn x ρ S | .stuck => .stuck
theorem y_for {tg : Tg} {it : It} {b : Sxs} {ρ : Env} {S : Cells} : evS Φ W (.for tg it b) ρ S = sfor Φ W tg b ρ (evI Φ it ρ S) := by
  rw [evS]; unfold sfor; cases evI Φ it ρ S <;> rfl
def whTest (t : Ex) (ρ : Env) (S : Cells) : R D := tr1 S.length (evE Φ t ρ S)
theorem y_while {t : Ex} {b : Sxs} {ρ : Env} {S : Cells} : evS Φ W (.while t b) ρ S = whileT (whTest Φ t) (evSs Φ W b) W ρ S := by
  rw [evS]
  congr 1
  funext ρ S
  unfold evT whTest
  rw [x_test]
theorem y_pass {ρ : Env} {S : Cells} : evS Φ W .pass ρ S = .next ρ S := by rw [evS]
theorem y_cont {ρ : Env} {S : Cells} : evS Φ W .cont ρ S = .cont ρ S := by rw [evS]
theorem y_brk {ρ : Env} {S : Cells} : evS Φ W .brk ρ S = .brk ρ S := by rw [evS]
def sthn (ss : Sxs) : FR → FR | .next ρ S => evSs Φ W ss ρ S | r => r
theorem y_nil {ρ : Env} {S : Cells} : evSs Φ W .nil ρ S = .next ρ S := by rw [evSs]
theorem y_cons {s : Sx} {ss : Sxs} {ρ : Env} {S : Cells} : evSs Φ W (.cons s ss) ρ S = sthn Φ W ss (evS Φ W s ρ S) := by
  rw [evSs]; unfold sthn; cases evS Φ W s ρ S <;> rfl
theorem sthn_next {ss : Sxs} {ρ : Env} {S : Cells} : sthn Φ W ss (.next ρ S) = evSs Φ W ss ρ S := rfl
theorem sthn_ret {ss : Sxs} {d : D} {S : Cells} : sthn Φ W ss (.ret d S) = .ret d S := rfl
theorem sthn_brk {ss : Sxs} {ρ : Env} {S : Cells} : sthn Φ W ss (.brk ρ S) = .brk ρ S := rfl
theorem sthn_cont {ss : Sxs} {ρ : Env} {S : Cells} : sthn Φ W ss (.cont ρ S) = .cont ρ S := rfl
def saug2 (i : Nat) (ρ : Env) (S : Cells) : Option Int → FR | some z => .next (ρ.set i (some (.int z))) S | none => .stuck
def saug1 (i : Nat) (op : Bop) (m : Int) (ρ : Env) : R D → FR | .ok y S => saug2 i ρ S (augV op m y) | .exn x S => .exn x ρ S | .stuck => .stuck
def saug (i : Nat) (op : Bop) (e : Ex) (ρ : Env) : R D → FR | .ok (.int m) S => saug1 i op m ρ (evE Φ e ρ S) | .ok _ _ => .stuck | .exn x S => .exn x ρ S | .stuck => .stuck
theorem y_aug {i : Nat} {op : Bop} {e : Ex} {ρ : Env} {S : Cells} : evS Φ W (.aug i op e) ρ S = saug Φ i op e ρ (look ρ i S) := by
  rw [evS]; unfold saug; cases look ρ i S with
  | ok d S1 =>
    cases d with
    | int m =>
      dsimp only [R.toF]
      unfold saug1
      cases evE Φ e ρ S1 with
      | ok y S2 => dsimp only; unfold saug2; cases augV op m y <;> rfl
      | exn x S2 => rfl
      | stuck => rfl
    | _ => rfl
  | exn x S1 => rfl
  | stuck => rfl
end
/-! GENERATED: the cases -/
section
variable (Φ : CallF) (W : Nat)
theorem frzs2_c0 {e : D} {es} {S} : frzs2 e (.ok es S) = .ok (e :: es) S := rfl
theorem frzs1_c0 {ds : List D} {e} {S} : frzs1 ds (.ok e S) = frzs2 e (frzs ds S) := rfl
theorem es2_c0 {d : D} {ds} {S} : es2 d (.ok ds S) = .ok (d :: ds) S := rfl
theorem es1_c0 {es : Exs} {ρ : Env} {d} {S} : es1 Φ es ρ (.ok d S) = es2 d (evEs Φ es ρ S) := rfl
theorem tup2_c0 {n : Nat} {ds} {S} : tup2 n (.ok ds S) = norm n (.need (decide (ds.length ≤ line)) (.ok (.tup ds) S)) := rfl
theorem tup1_c0 {n : Nat} {ds} {S} : tup1 n (.ok ds S) = tup2 n (frzs ds S) := rfl
theorem lst2_c0 {n : Nat} {ds} {S} : lst2 n (.ok ds S) = norm n (.need (decide (ds.length ≤ line)) (newL ds S)) := rfl
theorem lst1_c0 {n : Nat} {ds} {S} : lst1 n (.ok ds S) = lst2 n (frzs ds S) := rfl
theorem bin2_c0 {n : Nat} {op : Bop} {x : D} {y} {S} : bin2 n op x (.ok y S) = norm n (both x y S fun x y => binV op x y S) := rfl
theorem bin1_c0 {n : Nat} {op : Bop} {b : Ex} {ρ : Env} {x} {S} : bin1 Φ n op b ρ (.ok x S) = bin2 n op x (evE Φ b ρ S) := rfl
theorem cmp2_c0 {n : Nat} {op : Cop} {x : D} {y} {S} : cmp2 n op x (.ok y S) = norm n (both x y S fun x y => bR (cmpV op x y) S) := rfl
theorem cmp1_c0 {n : Nat} {op : Cop} {b : Ex} {ρ : Env} {x} {S} : cmp1 Φ n op b ρ (.ok x S) = cmp2 n op x (evE Φ b ρ S) := rfl
theorem chain4_c0 {n : Nat} {p : Cop} {y : D} {z} {S} : chain4 n p y (.ok z S) = norm n (both y z S fun y z => bR (cmpV p y z) S) := rfl
theorem chain3_c0 {n : Nat} {p : Cop} {y : D} {c : Ex} {ρ : Env} {S : Cells}  : chain3 Φ n p y c ρ S (some true) = chain4 n p y (evE Φ c ρ S) := rfl
theorem chain3_c1 {n : Nat} {p : Cop} {y : D} {c : Ex} {ρ : Env} {S : Cells}  : chain3 Φ n p y c ρ S (some false) = .ok (.bl false) (S.take n) := rfl
theorem chain2_c0 {n : Nat} {o p : Cop} {x : D} {c : Ex} {ρ : Env} {y} {S} : chain2 Φ n o p x c ρ (.ok y S) = chain3 Φ n p y c ρ S (chainV o x y S) := rfl
theorem chain1_c0 {n : Nat} {o p : Cop} {b c : Ex} {ρ : Env} {x} {S} : chain1 Φ n o p b c ρ (.ok x S) = chain2 Φ n o p x c ρ (evE Φ b ρ S) := rfl
theorem and2_c0 {n : Nat} {b : Ex} {ρ : Env} {x : D} {S : Cells}  : and2 Φ n b ρ x S (some true) = evE Φ b ρ (S.take n) := rfl
theorem and2_c1 {n : Nat} {b : Ex} {ρ : Env} {x : D} {S : Cells}  : and2 Φ n b ρ x S (some false) = norm n (.ok x S) := rfl
theorem and1_c0 {n : Nat} {b : Ex} {ρ : Env} {x} {S} : and1 Φ n b ρ (.ok x S) = and2 Φ n b ρ x S (truth S x) := rfl
theorem or2_c0 {n : Nat} {b : Ex} {ρ : Env} {x : D} {S : Cells}  : or2 Φ n b ρ x S (some false) = evE Φ b ρ (S.take n) := rfl
theorem or2_c1 {n : Nat} {b : Ex} {ρ : Env} {x : D} {S : Cells}  : or2 Φ n b ρ x S (some true) = norm n (.ok x S) := rfl
theorem or1_c0 {n : Nat} {b : Ex} {ρ : Env} {x} {S} : or1 Φ n b ρ (.ok x S) = or2 Φ n b ρ x S (truth S x) := rfl
theorem tr2_c0 {n : Nat} {S : Cells} {t} : tr2 n S (some t) = .ok (.bl t) (S.take n) := rfl
theorem tr1_c0 {n : Nat} {x} {S} : tr1 n (.ok x S) = tr2 n S (truth S x) := rfl
theorem not2_c0 {n : Nat} {S : Cells} {t} : not2 n S (some t) = .ok (.bl (!t)) (S.take n) := rfl
theorem not1_c0 {n : Nat} {x} {S} : not1 n (.ok x S) = not2 n S (truth S x) := rfl
theorem ite1_c0 {a b : Ex} {ρ : Env} {S} : ite1 Φ a b ρ (.ok (.bl true) S) = evE Φ a ρ S := rfl
theorem ite1_c1 {a b : Ex} {ρ : Env} {S} : ite1 Φ a b ρ (.ok (.bl false) S) = evE Φ b ρ S := rfl
theorem ix2_c0 {n : Nat} {x : D} {y} {S} : ix2 n x (.ok y S) = norm n (both x y S fun x y => ixV x y S) := rfl
theorem ix1_c0 {n : Nat} {b : Ex} {ρ : Env} {x} {S} : ix1 Φ n b ρ (.ok x S) = ix2 n x (evE Φ b ρ S) := rfl
theorem sl3_c0 {n : Nat} {x l : D} {h} {S} : sl3 n x l (.ok h S) = norm n (one x S fun x => slV x l h S) := rfl
theorem sl2_c0 {n : Nat} {x : D} {h : Ex} {ρ : Env} {l} {S} : sl2 Φ n x h ρ (.ok l S) = sl3 n x l (evE Φ h ρ S) := rfl
theorem sl1_c0 {n : Nat} {l h : Ex} {ρ : Env} {x} {S} : sl1 Φ n l h ρ (.ok x S) = sl2 Φ n x h ρ (evE Φ l ρ S) := rfl
theorem isi1_c0 {n : Nat} {t : String} {x} {S} : isi1 n t (.ok x S) = norm n (one x S fun x => bR (isiV t x) S) := rfl
theorem call1_c0 {n : Nat} {f : Str} {ds} {S} : call1 Φ n f (.ok ds S) = norm n (Φ f ds S) := rfl
theorem callk1_c0 {n : Nat} {f : Str} {pm : List Nat} {ds} {S} : callk1 Φ n f pm (.ok ds S) = norm n (Φ f (pm.map fun i => ds.getD i .non) S) := rfl
theorem blt1_c0 {n : Nat} {b : Blt} {ds} {S} : blt1 n b (.ok ds S) = norm n (bltV b ds S) := rfl
theorem mth2_c0 {n : Nat} {m : Mth} {x : D} {ds} {S} : mth2 n m x (.ok ds S) = norm n (mthV m x ds S) := rfl
theorem mth1_c0 {n : Nat} {m : Mth} {es : Exs} {ρ : Env} {x} {S} : mth1 Φ n m es ρ (.ok x S) = mth2 n m x (evEs Φ es ρ S) := rfl
theorem lcT2_c0 {n : Nat} {d} {S} : lcT2 n (.ok d S) = keep n (frz d S) := rfl
theorem lcT1_c0 {elt : Ex} {n : Nat} {ρ : Env} {S} : lcT1 Φ elt n ρ (.ok true S) = lcT2 n (evE Φ elt ρ (S.take n)) := rfl
theorem lcT1_c1 {elt : Ex} {n : Nat} {ρ : Env} {S} : lcT1 Φ elt n ρ (.ok false S) = .ok [] (S.take n) := rfl
theorem lc1_c0 {n : Nat} {elt : Ex} {w : List Nat} {tg : Tg} {ifs : Exs} {ρ : Env} {wk} {S} : lc1 Φ n elt w tg ifs ρ (.ok wk S) = comp n wk (lcTurn Φ elt w tg ifs ρ) S := rfl
theorem ts2_c0 {S : Cells} {t} : ts2 S (some t) = .ok t S := rfl
theorem seq1_c0 {n : Nat} {d} {S} : seq1 n (.ok d S) = hold n d S := rfl
theorem rng1_c0 {n : Nat} {m} {S} : rng1 n (.ok (.int m) S) = .need (decide (m < 4611686018427387904) && decide (-4611686018427387904 ≤ m)) (.ok (rngD 0 m.toNat, none) (S.take n)) := rfl
theorem enum1_c0 {n : Nat} {d} {S} : enum1 n (.ok d S) = enum2 (holdL n d S) := rfl
theorem sret_c0 {ρ : Env} {d} {S} : sret ρ (.ok d S) = .ret d S := rfl
theorem sset_c0 {i : Nat} {ρ : Env} {d} {S} : sset i ρ (.ok d S) = .next (ρ.set i (some d)) S := rfl
theorem sunp2_c0 {S : Cells} {ρ} : sunp2 S (some ρ) = .next ρ S := rfl
theorem sunp_c0 {is : List Nat} {ρ : Env} {ds} {S} : sunp is ρ (.ok (.tup ds) S) = sunp2 S (asgs is ds ρ) := rfl
theorem sseti3_c0 {n : Nat} {ρ : Env} {d o : D} {i} {S} : sseti3 n ρ d o (.ok i S) = sseti4 ρ (norm n (setV o i d S)) := rfl
theorem sseti2_c0 {n : Nat} {ρ : Env} {i : Ex} {d : D} {o} {S} : sseti2 Φ n ρ i d (.ok o S) = sseti3 n ρ d o (evE Φ i ρ S) := rfl
theorem sseti1_c0 {n : Nat} {ρ : Env} {o i : Ex} {d} {S} : sseti1 Φ n ρ o i (.ok d S) = sseti2 Φ n ρ i d (evE Φ o ρ S) := rfl
theorem sstar_c0 {is : List Nat} {k : Nat} {ρ : Env} {d} {S} : sstar is k ρ (.ok d S) = starV is k ρ d S := rfl
theorem site_c0 {a b : Sxs} {ρ : Env} {S} : site Φ W a b ρ (.ok (.bl true) S) = evSs Φ W a ρ S := rfl
theorem site_c1 {a b : Sxs} {ρ : Env} {S} : site Φ W a b ρ (.ok (.bl false) S) = evSs Φ W b ρ S := rfl
theorem sfor_c0 {tg : Tg} {b : Sxs} {ρ : Env} {w} {S} : sfor Φ W tg b ρ (.ok w S) = forE w.2 (forT (forTurn Φ W tg b) w.1 ρ S) := rfl
theorem saug2_c0 {i : Nat} {ρ : Env} {S : Cells} {z} : saug2 i ρ S (some z) = .next (ρ.set i (some (.int z))) S := rfl
theorem saug1_c0 {i : Nat} {op : Bop} {m : Int} {ρ : Env} {y} {S} : saug1 i op m ρ (.ok y S) = saug2 i ρ S (augV op m y) := rfl
theorem saug_c0 {i : Nat} {op : Bop} {e : Ex} {ρ : Env} {m} {S} : saug Φ i op e ρ (.ok (.int m) S) = saug1 i op m ρ (evE Φ e ρ S) := rfl
end
/-! END GENERATED -/
section
variable {α β : Type} {S : Cells} {n : Nat}
theorem neg1_ok {i : Int} : neg1 (.ok (.int i) S) = .ok (.int (-i)) S := rfl
theorem int1_ok {i : Int} : VS.int1 (.ok (.int i) S) = .ok (.int i) S := rfl
theorem ts1_ok {d : D} : ts1 (.ok d S) = ts2 S (truth S d) := rfl
theorem enum2_ok {w : Walked} : enum2 (.ok w S) = .ok (w.map enumD) S := rfl
theorem sexpr_ok {ρ : Env} {d : D} : sexpr n ρ (.ok d S) = .next ρ (S.take n) := rfl
theorem norm_bl (b : Bool) : norm n (.ok (.bl b) S) = .ok (.bl b) (S.take n) := rfl
theorem norm_int (b : Int) : norm n (.ok (.int b) S) = .ok (.int b) (S.take n) := rfl
theorem norm_str (b : Str) : norm n (.ok (.str b) S) = .ok (.str b) (S.take n) := rfl
theorem norm_tup (b : List D) : norm n (.ok (.tup b) S) = .ok (.tup b) (S.take n) := rfl
theorem norm_lst (b : List D) : norm n (.ok (.lst b) S) = .ok (.lst b) (S.take n) := rfl
theorem norm_non : norm n (.ok .non S) = .ok .non (S.take n) := rfl
theorem norm_old {m : Nat} (h : m < n) : norm n (.ok (.ref m) S) = .ok (.ref m) (S.take n) := by simp [norm, h]
theorem norm_new {c : Cell} : norm S.length (.ok (.ref S.length) (S ++ [c])) = .ok (.ref S.length) (S ++ [c]) := by simp [norm]
theorem take_len0 : S.take S.length = S := List.take_length
theorem take_set {p : Nat} {c : Cell} : (S.set p c).take S.length = S.set p c := List.take_of_length_le (by simp)
theorem take_app {S2 : Cells} : (S ++ S2).take S.length = S := List.take_left
theorem need_t (r : R α) : R.need true r = r := rfl
theorem val_int (i : Int) : val S (.int i) = some (.int i) := rfl
theorem val_str (i : Str) : val S (.str i) = some (.str i) := rfl
theorem val_bl (i : Bool) : val S (.bl i) = some (.bl i) := rfl
theorem val_tup (i : List D) : val S (.tup i) = some (.tup i) := rfl
theorem val_lst (i : List D) : val S (.lst i) = some (.lst i) := rfl
theorem val_non : val S .non = some .non := rfl
theorem val_ref {m : Nat} {l : Lk} {c : D} (h : S[m]? = some ⟨l, c⟩) : val S (.ref m) = some c := by simp [val, h]
theorem look_0 {d : D} {ρ : Env} : look (some d :: ρ) 0 S = .ok d S := rfl
theorem look_s {o : Option D} {ρ : Env} {i : Nat} : look (o :: ρ) (i + 1) S = look ρ i S := rfl
theorem tru_bl (b : Bool) : truth S (.bl b) = some b := rfl
theorem tru_int (b : Int) : truth S (.int b) = some (b != 0) := rfl
theorem atN_0 {m : Nat} : atN (m + 1) 0 = some 0 := by unfold atN; rw [if_pos (by decide), if_pos (by simp)] <;> rfl
theorem atN_1 {m : Nat} : atN (m + 1 + 1) 1 = some 1 := by unfold atN; rw [if_pos (by decide), if_pos (by simp)] <;> rfl
theorem atN_2 {m : Nat} : atN (m + 1 + 1 + 1) 2 = some 2 := by unfold atN; rw [if_pos (by decide), if_pos (by simp)] <;> rfl
theorem atN_3 {m : Nat} : atN (m + 1 + 1 + 1 + 1) 3 = some 3 := by unfold atN; rw [if_pos (by decide), if_pos (by simp)] <;> rfl
theorem ixl_0 {a : D} {r : List D} : ixV (.lst (a :: r)) (.int 0) S = .ok a S := by simp [ixV, atN_0]
theorem ixl_1 {a b : D} {r : List D} : ixV (.lst (a :: b :: r)) (.int 1) S = .ok b S := by simp [ixV, atN_1]
theorem ixl_2 {a b c : D} {r : List D} : ixV (.lst (a :: b :: c :: r)) (.int 2) S = .ok c S := by simp [ixV, atN_2]
theorem ixl_3 {a b c d : D} {r : List D} : ixV (.lst (a :: b :: c :: d :: r)) (.int 3) S = .ok d S := by simp [ixV, atN_3]
theorem ixt_0 {a : D} {r : List D} : ixV (.tup (a :: r)) (.int 0) S = .ok a S := by simp [ixV, atN_0]
theorem ixt_1 {a b : D} {r : List D} : ixV (.tup (a :: b :: r)) (.int 1) S = .ok b S := by simp [ixV, atN_1]
theorem ixt_2 {a b c : D} {r : List D} : ixV (.tup (a :: b :: c :: r)) (.int 2) S = .ok c S := by simp [ixV, atN_2]
theorem ixt_3 {a b c d : D} {r : List D} : ixV (.tup (a :: b :: c :: d :: r)) (.int 3) S = .ok d S := by simp [ixV, atN_3]
theorem ix_at {xs : List D} {i : Int} {d : D} (h0 : 0 ≤ i) (h : xs[i.toNat]? = some d) : ixV (.lst xs) (.int i) S = .ok d S := by
  have hl := (List.getElem?_eq_some_iff.mp h).1
  have he := (List.getElem?_eq_some_iff.mp h).2
  simp [ixV, atN, h0, hl, he]
theorem add_i {i j : Int} : binV .add (.int i) (.int j) S = .ok (.int (i + j)) S := rfl
theorem sub_i {i j : Int} : binV .sub (.int i) (.int j) S = .ok (.int (i - j)) S := rfl
theorem mul_i {i j : Int} (h : mulOk i j = true) : binV .mul (.int i) (.int j) S = .ok (.int (i * j)) S := by show R.need _ _ = _; rw [h] <;> rfl
theorem fdiv_i {i j : Int} (h : divOk j = true) : binV .fdiv (.int i) (.int j) S = .ok (.int (i / j)) S := by show R.need _ _ = _; rw [h] <;> rfl
theorem mod_i {i j : Int} (h : 0 < j) : binV .mod (.int i) (.int j) S = .ok (.int (i % j)) S := by show R.need _ _ = _; rw [decide_eq_true h] <;> rfl
theorem pow_i {i j : Int} (h : powOk i j = true) : binV .pow (.int i) (.int j) S = .ok (.int (i ^ j.toNat)) S := by show R.need _ _ = _; rw [h] <;> rfl
theorem lt_i {i j : Int} : cmpV .lt (.int i) (.int j) = some (decide (i < j)) := rfl
theorem le_i {i j : Int} : cmpV .le (.int i) (.int j) = some (decide (i ≤ j)) := rfl
theorem gt_i {i j : Int} : cmpV .gt (.int i) (.int j) = some (decide (j < i)) := rfl
theorem ge_i {i j : Int} : cmpV .ge (.int i) (.int j) = some (decide (j ≤ i)) := rfl
theorem len_l {xs : List D} : bltV .len [.lst xs] S = .ok (.int xs.length) S := rfl
theorem len_t {xs : List D} : bltV .len [.tup xs] S = .ok (.int xs.length) S := rfl
theorem abs_i {i : Int} : bltV .abs [.int i] S = .ok (.int (if i < 0 then -i else i)) S := rfl
theorem int_b {b : Bool} : bltV .int [.bl b] S = .ok (.int (if b then 1 else 0)) S := rfl
theorem setV_at {p : Nat} {xs : List D} {i : Int} {d : D} {j : Nat} (h : S[p]? = some ⟨.mu, .lst xs⟩) (hi : atN xs.length i = some j) (hf : frz d S = .ok d S) : setV (.ref p) (.int i) d S = .ok .non (S.set p ⟨.mu, .lst (xs.set j d)⟩) := by
  simp [setV, hf, R.bind, h, hi]
theorem frz_int {i : Int} : frz (.int i) S = .ok (.int i) S := rfl
theorem frz_str {i : Str} : frz (.str i) S = .ok (.str i) S := rfl
theorem frz_bl {i : Bool} : frz (.bl i) S = .ok (.bl i) S := rfl
theorem frz_tup {i : List D} : frz (.tup i) S = .ok (.tup i) S := rfl
theorem frz_lst {i : List D} : frz (.lst i) S = .ok (.lst i) S := rfl
theorem frz_non : frz .non S = .ok .non S := rfl
theorem set_same {p : Nat} {c c' : Cell} : (S.set p c).set p c' = S.set p c' := List.set_set ..
theorem get_set {p : Nat} {c : Cell} (h : p < S.length) : (S.set p c)[p]? = some c := List.getElem?_set_self h
theorem len_set {p : Nat} {c : Cell} : (S.set p c).length = S.length := List.length_set
theorem set_s {o o' : α} {ρ : List α} {i : Nat} : List.set (o :: ρ) (i + 1) o' = o :: ρ.set i o' := rfl
theorem set_0 {o o' : α} {ρ : List α} : List.set (o :: ρ) 0 o' = o' :: ρ := rfl
theorem bR_some {b : Bool} : bR (some b) S = .ok (.bl b) S := rfl
theorem ret_ret {d : D} : retR n (.ret d S) = norm n (.ok d S) := rfl
theorem ret_next {ρ : Env} : retR n (.next ρ S) = .ok .non (S.take n) := rfl
theorem p18 : binV .pow (.int 10) (.int 18) S = .ok (.int 1000000000000000000) S := by rw [pow_i (by decide)] <;> rfl
theorem p8 : binV .pow (.int 10) (.int 8) S = .ok (.int 100000000) S := by rw [pow_i (by decide)] <;> rfl
theorem val_new {l : Lk} {c : D} : val (S ++ [⟨l, c⟩]) (.ref S.length) = some c := by simp [val]
theorem need_nil {r : R α} : R.need (decide (([] : List D).length ≤ line)) r = r := rfl
theorem newL_ok {xs : List D} : newL xs S = .ok (.ref S.length) (S ++ [⟨.mu, .lst xs⟩]) := rfl
theorem star_ok {is : List Nat} {k : Nat} {ρ ρ' : Env} {d : D} {ds : List D} (hv : val S d = some (.lst ds)) (hl : is.length ≤ ds.length + 1) (ha : asgs is (ds.take k ++ [.ref S.length] ++ ds.drop (ds.length - (is.length - 1 - k))) ρ = some ρ') :
    starV is k ρ d S = .next ρ' (S ++ [⟨.mu, .lst ((ds.drop k).take (ds.length - (is.length - 1)))⟩]) := by
  unfold starV
  rw [hv]
  show (if is.length ≤ ds.length + 1 then _ else _) = _
  rw [if_pos hl, ha]
theorem pop_ok {m : Nat} {x : D} {xs : List D} (h : S[m]? = some ⟨.mu, .lst (x :: xs)⟩) : mthV .pop0 (.ref m) [.int 0] S = .ok x (S.set m ⟨.mu, .lst xs⟩) := by
  simp [mthV, grow, h, R.bind]
theorem append_ok {m : Nat} {x : D} {xs : List D} (h : S[m]? = some ⟨.mu, .lst xs⟩) (hf : frz x S = .ok x S) (hl : xs.length ≤ 1000000) : mthV .append (.ref m) [x] S = .ok .non (S.set m ⟨.mu, .lst (xs ++ [x])⟩) := by
  have : xs.length + 1 ≤ line := by unfold line; omega
  simp [mthV, grow, h, hf, R.bind, R.need, this]
theorem ix_last {xs : List D} {d : D} : ixV (.lst (xs ++ [d])) (.int (-1)) S = .ok d S := by
  have : atN (xs ++ [d]).length (-1) = some xs.length := by
    unfold atN
    rw [if_neg (by decide), if_pos (by simp; omega)]
    congr 1
    simp
    omega
  unfold ixV
  dsimp only
  rw [this]
  simp
theorem eq_str {s t : Str} : cmpV .eq (.str s) (.str t) = some (s == t) := rfl
theorem ne_str {s t : Str} : cmpV .ne (.str s) (.str t) = some (!(s == t)) := rfl
end
end VS

/-! VS, part Y: the law's pen; turns by an invariant. -/
namespace VS
open PySem

theorem bits_le {i : Int} {n : Nat} (h : i.natAbs < 2 ^ n) : Builtin.Int.intBits i ≤ n := by
  unfold Builtin.Int.intBits
  split
  · omega
  · rename_i hz
    have hz : i ≠ 0 := by simpa using hz
    have h0 : i.natAbs ≠ 0 := by omega
    have := (Nat.log2_lt h0).mpr h
    omega
theorem mul_r {i j : Int} (h : j.natAbs < 18446744073709551616) : mulOk i j = true := by
  have : Builtin.Int.intBits j ≤ 64 := bits_le (by simpa using h)
  unfold mulOk
  simp [this]
theorem mul_l {i j : Int} (h : i.natAbs < 18446744073709551616) : mulOk i j = true := by
  have : Builtin.Int.intBits i ≤ 64 := bits_le (by simpa using h)
  unfold mulOk
  simp [this]
theorem pow_ok {i j : Int} (h0 : 0 ≤ j) (hj : j ≤ 100) (h : i.natAbs < 2 ^ 1000) : powOk i j = true := by
  have : Builtin.Int.intBits i ≤ 1000 := bits_le h
  unfold powOk
  have e : (Builtin.Int.intBits i : Int) * j ≤ 134217728 := by
    have h1 : (Builtin.Int.intBits i : Int) ≤ 1000 := by omega
    have h2 : (Builtin.Int.intBits i : Int) * j ≤ 1000 * 100 := Int.mul_le_mul h1 hj h0 (by omega)
    omega
  simp [h0, e]
theorem div_ok {j : Int} (h : 0 < j) (hb : j < 18446744073709551616) : divOk j = true := by
  unfold divOk
  have h0 : j.natAbs ≠ 0 := by omega
  have : j.natAbs.log2 < 9000 := Nat.lt_trans ((Nat.log2_lt h0).mpr (show j.natAbs < 2 ^ 64 by omega)) (by decide)
  simp [h, this]

/-! ### turns -/
theorem turns_inv {f : D → Cells → R (List D)} (I : Nat → List D → Cells → Prop) : ∀ {xs : List D} {S : Cells} {ys0 : List D} {i0 : Nat}, I i0 ys0 S →
    (∀ i x ys S, xs[i]? = some x → I (i0 + i) ys S → ∃ zs S', f x S = .ok zs S' ∧ I (i0 + i + 1) (ys ++ zs) S') → ∃ ys S', turns f xs S = .ok ys S' ∧ I (i0 + xs.length) (ys0 ++ ys) S'
  | [], S, ys0, i0, h0, _ => ⟨[], S, rfl, by simpa using h0⟩
  | x :: xs, S, ys0, i0, h0, hs => by
    obtain ⟨zs, S1, e1, h1⟩ := hs 0 x ys0 S rfl h0
    obtain ⟨ws, S2, e2, h2⟩ := turns_inv (xs := xs) I h1 fun i y ys S hy hI => by
      have := hs (i + 1) y ys S hy (by rw [show i0 + (i + 1) = i0 + 0 + 1 + i by omega]; exact hI)
      rw [show i0 + (i + 1) + 1 = i0 + 0 + 1 + i + 1 by omega] at this
      exact this
    refine ⟨zs ++ ws, S2, ?_, ?_⟩
    · show (f x S).bind _ = _
      rw [e1]
      show (turns f xs S1).bind _ = _
      rw [e2] <;> rfl
    · rw [List.length_cons, show i0 + (xs.length + 1) = i0 + 0 + 1 + xs.length by omega, ← List.append_assoc]
      exact h2
theorem for_inv {f : D → Env → Cells → FR} (I : Nat → Env → Cells → Prop) : ∀ {xs : List D} {ρ : Env} {S : Cells} {i0 : Nat}, I i0 ρ S →
    (∀ i x ρ S, xs[i]? = some x → I (i0 + i) ρ S → ∃ ρ' S', (f x ρ S = .next ρ' S' ∨ f x ρ S = .cont ρ' S') ∧ I (i0 + i + 1) ρ' S') → ∃ ρ' S', forT f xs ρ S = .next ρ' S' ∧ I (i0 + xs.length) ρ' S'
  | [], ρ, S, i0, h0, _ => ⟨ρ, S, rfl, by simpa using h0⟩
  | x :: xs, ρ, S, i0, h0, hs => by
    obtain ⟨ρ1, S1, e1, h1⟩ := hs 0 x ρ S rfl h0
    obtain ⟨ρ2, S2, e2, h2⟩ := for_inv (xs := xs) I h1 fun i y ρ S hy hI => by
      have := hs (i + 1) y ρ S hy (by rw [show i0 + (i + 1) = i0 + 0 + 1 + i by omega]; exact hI)
      rw [show i0 + (i + 1) + 1 = i0 + 0 + 1 + i + 1 by omega] at this
      exact this
    refine ⟨ρ2, S2, ?_, ?_⟩
    · rcases e1 with e1 | e1 <;> (show (match f x ρ S with | .next ρ S => _ | .cont ρ S => _ | .brk ρ S => _ | r => _) = _; rw [e1]; exact e2)
    · rw [List.length_cons, show i0 + (xs.length + 1) = i0 + 0 + 1 + xs.length by omega]
      exact h2
/-- a while by a measure -/
theorem while_inv {t : Env → Cells → R D} {b : Env → Cells → FR} (I : Nat → Env → Cells → Prop) (Q : Env → Cells → Prop)
    (hs : ∀ m ρ S, I m ρ S → (∃ S1, t ρ S = .ok (.bl false) S1 ∧ Q ρ S1) ∨ (∃ S1, t ρ S = .ok (.bl true) S1 ∧ ∃ ρ' S' m', b ρ S1 = .next ρ' S' ∧ m' < m ∧ I m' ρ' S')) :
    ∀ {n m : Nat} {ρ : Env} {S : Cells}, m < n → I m ρ S → ∃ ρ' S', whileT t b n ρ S = .next ρ' S' ∧ Q ρ' S'
  | 0, m, ρ, S, h, _ => absurd h (Nat.not_lt_zero _)
  | n + 1, m, ρ, S, h, hI => by
    rcases hs m ρ S hI with ⟨S1, e1, q⟩ | ⟨S1, e1, ρ', S', m', e2, hm, hI'⟩
    · refine ⟨ρ, S1, ?_, q⟩
      unfold whileT
      rw [e1] <;> rfl
    · obtain ⟨ρ2, S2, e3, q⟩ := while_inv I Q hs (n := n) (m := m') (by omega) hI'
      refine ⟨ρ2, S2, ?_, q⟩
      unfold whileT
      rw [e1]
      show (match b ρ S1 with | .next ρ S => _ | .cont ρ S => _ | .brk ρ S => _ | r => _) = _
      rw [e2]; exact e3

/-! ### the pen -/
/-- the pen stands at p, with so many takes at most behind it -/
def Pen (S : Cells) (p : Nat) (a : Nat) : Prop := ∃ (cs : List Int) (at_ left : Int), S[p]? = some ⟨.mu, .lst [.lst (cs.map .int), .int at_, .int left]⟩ ∧ 0 ≤ at_ ∧ at_ ≤ a ∧ 0 ≤ left ∧ cs.length ≤ 63
theorem Pen.lt {S : Cells} {p a : Nat} (h : Pen S p a) : p < S.length := by
  obtain ⟨cs, at_, left, e, _⟩ := h
  exact (List.getElem?_eq_some_iff.mp e).1
theorem Pen.mono {S : Cells} {p a b : Nat} (h : Pen S p a) (hab : a ≤ b) : Pen S p b := by
  obtain ⟨cs, at_, left, e, h1, h2, h3⟩ := h
  exact ⟨cs, at_, left, e, h1, by omega, h3⟩
theorem Pen.of {S S' : Cells} {p a : Nat} (h : Pen S p a) (e : S'[p]? = S[p]?) : Pen S' p a := by
  obtain ⟨cs, at_, left, e1, h1⟩ := h
  exact ⟨cs, at_, left, by rw [e, e1], h1⟩

def bTail : Sxs := (.cons (.ite (.and (.cmp .lt (.v 3) (.blt .len (.cons (.ix (.v 0) (.k (.int 0))) .nil))) (.cmp .ge (.blt .abs (.cons (.v 4) .nil)) (.bin .pow (.k (.int 10)) (.k (.int 18)))))
    (.cons (.set 5 (.bin .add (.bin .mul (.k (.int 2)) (.bin .sub (.blt .abs (.cons (.v 4) .nil)) (.bin .pow (.k (.int 10)) (.k (.int 18))))) (.blt .int (.cons (.cmp .lt (.v 4) (.k (.int 0))) .nil))))
    (.cons (.seti (.v 0) (.k (.int 2)) (.bin .fdiv (.v 5) (.v 1)))
    (.cons (.ret (.bin .mod (.v 5) (.v 1)))
    .nil)))
    .nil)
    (.cons (.set 6 (.bin .mod (.bin .pow (.bin .add (.bin .add (.bin .add (.bin .mod (.v 4) (.k (.int 2147483629))) (.bin .mul (.k (.int 40709)) (.v 3))) (.bin .mul (.bin .mul (.k (.int 7919)) (.v 3)) (.v 3))) (.k (.int 31))) (.k (.int 5))) (.k (.int 2147483647))))
    (.cons (.set 6 (.bin .mod (.bin .pow (.bin .add (.bin .add (.bin .mul (.v 6) (.k (.int 48271))) (.bin .mul (.k (.int 69621)) (.v 3))) (.k (.int 11))) (.k (.int 3))) (.k (.int 2147483587))))
    (.cons (.ite (.cmp .gt (.v 1) (.bin .pow (.k (.int 10)) (.k (.int 8))))
    (.cons (.set 6 (.bin .pow (.bin .add (.v 6) (.k (.int 17))) (.k (.int 7))))
    .nil)
    .nil)
    (.cons (.ret (.bin .mod (.bin .fdiv (.v 6) (.k (.int 7))) (.v 1)))
    .nil)))))
def bTake : Sxs := (.cons (.ite (.cmp .gt (.ix (.v 0) (.k (.int 2))) (.k (.int 0)))
    (.cons (.set 2 (.bin .mod (.ix (.v 0) (.k (.int 2))) (.v 1)))
    (.cons (.seti (.v 0) (.k (.int 2)) (.bin .fdiv (.ix (.v 0) (.k (.int 2))) (.v 1)))
    (.cons (.ret (.v 2))
    .nil)))
    .nil)
    (.cons (.set 3 (.ix (.v 0) (.k (.int 1))))
    (.cons (.seti (.v 0) (.k (.int 1)) (.bin .add (.v 3) (.k (.int 1))))
    (.cons (.set 4 (.bin .add (.bin .mul (.k (.int 41)) (.v 3)) (.k (.int 13))))
    (.cons (.ite (.cmp .ne (.ix (.v 0) (.k (.int 0))) (.lst .nil))
    (.cons (.set 4 (.ix (.ix (.v 0) (.k (.int 0))) (.bin .mod (.v 3) (.blt .len (.cons (.ix (.v 0) (.k (.int 0))) .nil)))))
    .nil)
    .nil)
    bTail)))))
theorem ints_dats : ∀ cs : List Int, D.dats (cs.map .int) = true
  | [] => rfl
  | _ :: r => by show (true && D.dats (r.map .int)) = true; rw [ints_dats r] <;> rfl
theorem ints_deps : ∀ cs : List Int, D.deps (cs.map .int) = 0
  | [] => rfl
  | _ :: r => by show max 0 (D.deps (r.map .int)) = 0; rw [ints_deps r] <;> rfl
theorem ne_nil {cs : List Int} : cmpV .ne (.lst (cs.map .int)) (.lst []) = some (!cs.isEmpty) := by
  show (eqV _ _).map _ = _
  unfold eqV
  have e1 : D.dat (.lst (cs.map .int)) = true := ints_dats cs
  have e2 : D.dep (.lst (cs.map .int)) ≤ 64 := by show D.deps (cs.map .int) + 1 ≤ 64; rw [ints_deps]; decide
  have e3 : D.dat (.lst []) = true := rfl
  rw [if_neg (by simp [D.flat]), if_pos (by simp [e1, e2, e3])]
  cases cs with
  | nil => rfl
  | cons _ _ => rfl

theorem tail_ok {Φ : CallF} {W : Nat} {S : Cells} {p a : Nat} {cs : List Int} {at_ at2 left cell upto : Int} (hS : S[p]? = some ⟨.mu, .lst [.lst (cs.map .int), .int at2, .int left]⟩) (h0 : 0 ≤ at_) (h2 : at2 = at_ + 1) (h1 : at_ ≤ a) (hl : 0 ≤ left) (hc : cs.length ≤ 63)
    (ha : a < 1152921504606846976) (hu : 0 < upto) (hu2 : upto ≤ 100000000) :
    ∃ r c, retR S.length (evSs Φ W bTail [some (.ref p), some (.int upto), none, some (.int at_), some (.int cell), none, none] S) = .ok (.int r) (S.set p c) ∧ 0 ≤ r ∧ r < upto ∧ Pen (S.set p c) p (a + 1) := by
  have hp : p < S.length := (List.getElem?_eq_some_iff.mp hS).1
  have hdiv : divOk upto = true := div_ok hu (by omega)
  have pen : ∀ {left2 : Int}, 0 ≤ left2 → Pen (S.set p ⟨.mu, .lst [.lst (cs.map .int), .int at2, .int left2]⟩) p (a + 1) := fun {left2} q3 => ⟨cs, at2, left2, List.getElem?_set_self hp, by omega, by omega, q3, hc⟩
  have same : S.set p ⟨.mu, .lst [.lst (cs.map .int), .int at2, .int left]⟩ = S := by
    refine List.ext_getElem? fun i => ?_
    by_cases hi : p = i
    · subst hi; rw [List.getElem?_set_self hp, hS]
    · rw [List.getElem?_set_ne hi]
  by_cases great : at_ < (cs.map D.int).length ∧ 1000000000000000000 ≤ (if cell < 0 then -cell else cell)
  · obtain ⟨c1, c2⟩ := great
    have e2 : mulOk 2 ((if cell < 0 then -cell else cell) - 1000000000000000000) = true := mul_l (by decide)
    refine ⟨_, ⟨.mu, .lst [.lst (cs.map .int), .int at2, .int _]⟩, ?_, Int.emod_nonneg (2 * ((if cell < 0 then -cell else cell) - 1000000000000000000) + (if decide (cell < 0) then 1 else 0)) (by omega), Int.emod_lt_of_pos _ hu, pen (left2 := (2 * ((if cell < 0 then -cell else cell) - 1000000000000000000) + (if decide (cell < 0) then 1 else 0)) / upto) (Int.ediv_nonneg (by
      have : (0 : Int) ≤ if decide (cell < 0) = true then 1 else 0 := by split <;> omega
      omega) (by omega))⟩
    simp only [bTail, x_nil, x_cons, x_k, x_v, x_g, x_tup, x_lst, x_bin, x_neg, x_cmp, x_chain, x_and, x_or, x_not, x_ite, x_int1, x_ix, x_sl, x_isi, x_call, x_callk, x_blt, x_mth, x_lc, x_tsnil, x_ts1, x_seq, x_rng1, x_enum, y_expr, y_ret, y_retN, y_set, y_unp, y_seti, y_star, y_ite, y_for, y_pass, y_cont, y_brk, y_nil, y_cons, y_aug, frzs2_c0, frzs1_c0, es2_c0, es1_c0, tup2_c0, tup1_c0, lst2_c0, lst1_c0, bin2_c0, bin1_c0, cmp2_c0, cmp1_c0, chain4_c0, chain3_c0, chain3_c1, chain2_c0, chain1_c0, and2_c0, and2_c1, and1_c0, or2_c0, or2_c1, or1_c0, tr2_c0, tr1_c0, not2_c0, not1_c0, ite1_c0, ite1_c1, ix2_c0, ix1_c0, sl3_c0, sl2_c0, sl1_c0, isi1_c0, call1_c0, callk1_c0, blt1_c0, mth2_c0, mth1_c0, lcT2_c0, lcT1_c0, lcT1_c1, lc1_c0, ts2_c0, seq1_c0, rng1_c0, enum1_c0, sret_c0, sset_c0, sunp2_c0, sunp_c0, sseti3_c0, sseti2_c0, sseti1_c0, sstar_c0, site_c0, site_c1, sfor_c0, saug2_c0, saug1_c0, saug_c0, neg1_ok, int1_ok, ts1_ok, enum2_ok, sexpr_ok, sseti4_ok, sthn_next, sthn_ret, sthn_brk, sthn_cont, frzs_nil, frzs_cons, norm_bl, norm_int, norm_str, norm_tup, norm_lst, norm_non, take_len0, take_set, take_app, need_t, val_int, val_str, val_bl, val_tup, val_lst, val_non, look_0, look_s, tru_bl, tru_int, both, one, ixl_0, ixl_1, ixl_2, ixl_3, ixt_0, ixt_1, ixt_2, ixt_3, add_i, sub_i, lt_i, le_i, gt_i, ge_i, len_l, len_t, abs_i, int_b, frz_int, frz_str, frz_bl, frz_tup, frz_lst, frz_non, set_same, len_set, set_s, set_0, bR_some, ret_ret, eq_str, ne_str, val_new, need_nil, newL_ok, norm_new, ret_next, p18, p8, List.map_cons, List.map_nil, List.replicate, List.cons_append, List.nil_append, Option.map_some, Bool.not_true, Bool.not_false, val_ref hS, mod_i hu, fdiv_i hdiv, setV_at hS atN_2 frz_int, decide_eq_true c1, decide_eq_true c2, and2_c0, and2_c1, mul_i e2]
  · have q0 : 0 ≤ cell % 2147483629 := Int.emod_nonneg _ (by decide)
    have q1 : cell % 2147483629 < 2147483629 := Int.emod_lt_of_pos _ (by decide)
    have q2 : at_ < 1152921504606846976 := by omega
    have q3 : 7919 * at_ * at_ ≤ 7919 * 1152921504606846976 * 1152921504606846976 := Int.mul_le_mul (by omega) (by omega) h0 (by decide)
    have q4 : 0 ≤ 7919 * at_ * at_ := Int.mul_nonneg (by omega) h0
    generalize hq : 7919 * at_ * at_ = sq at q3 q4
    have n1 : (cell % 2147483629 + 40709 * at_ + 7919 * at_ * at_ + 31).natAbs < 2 ^ 1000 := by
      rw [hq]
      exact Nat.lt_of_lt_of_le (m := 2 ^ 140) (by omega) (Nat.pow_le_pow_right (by decide) (by decide))
    have k1 := mul_i (S := S) (mul_l (i := 40709) (j := at_) (by decide))
    have k2 := mul_i (S := S) (mul_l (i := 7919) (j := at_) (by decide))
    have k3 := mul_i (S := S) (mul_r (i := 7919 * at_) (j := at_) (by omega))
    have k4 := pow_i (S := S) (pow_ok (i := cell % 2147483629 + 40709 * at_ + 7919 * at_ * at_ + 31) (j := 5) (by decide) (by decide) n1)
    generalize hx1 : (cell % 2147483629 + 40709 * at_ + 7919 * at_ * at_ + 31) ^ (5 : Int).toNat = x1 at k4
    have k5 := mul_i (S := S) (mul_r (i := x1 % 2147483647) (j := 48271) (by decide))
    have k6 := mul_i (S := S) (mul_l (i := 69621) (j := at_) (by decide))
    have n2 : (x1 % 2147483647 * 48271 + 69621 * at_ + 11).natAbs < 2 ^ 1000 := by
      have q5 : 0 ≤ x1 % 2147483647 := Int.emod_nonneg _ (by decide)
      have q6 : x1 % 2147483647 < 2147483647 := Int.emod_lt_of_pos _ (by decide)
      exact Nat.lt_of_lt_of_le (m := 2 ^ 140) (by omega) (Nat.pow_le_pow_right (by decide) (by decide))
    have k7 := pow_i (S := S) (pow_ok (i := x1 % 2147483647 * 48271 + 69621 * at_ + 11) (j := 3) (by decide) (by decide) n2)
    generalize hx2 : (x1 % 2147483647 * 48271 + 69621 * at_ + 11) ^ (3 : Int).toNat = x2 at k7
    have d1 : divOk 7 = true := by decide
    have c3 : decide (100000000 < upto) = false := decide_eq_false (by omega)
    refine ⟨x2 % 2147483587 / 7 % upto, ⟨.mu, .lst [.lst (cs.map .int), .int at2, .int left]⟩, ?_, Int.emod_nonneg _ (by omega), Int.emod_lt_of_pos _ hu, pen hl⟩
    rw [same]
    have m1 : ∀ {i : Int}, binV .mod (.int i) (.int 2147483629) S = .ok (.int (i % 2147483629)) S := fun {i} => mod_i (by decide)
    have m2 : ∀ {i : Int}, binV .mod (.int i) (.int 2147483647) S = .ok (.int (i % 2147483647)) S := fun {i} => mod_i (by decide)
    have m3 : ∀ {i : Int}, binV .mod (.int i) (.int 2147483587) S = .ok (.int (i % 2147483587)) S := fun {i} => mod_i (by decide)
    by_cases c1 : at_ < (cs.map D.int).length
    · have c2 : decide (1000000000000000000 ≤ (if cell < 0 then -cell else cell)) = false := decide_eq_false fun z => great ⟨c1, z⟩
      simp only [bTail, x_nil, x_cons, x_k, x_v, x_g, x_tup, x_lst, x_bin, x_neg, x_cmp, x_chain, x_and, x_or, x_not, x_ite, x_int1, x_ix, x_sl, x_isi, x_call, x_callk, x_blt, x_mth, x_lc, x_tsnil, x_ts1, x_seq, x_rng1, x_enum, y_expr, y_ret, y_retN, y_set, y_unp, y_seti, y_star, y_ite, y_for, y_pass, y_cont, y_brk, y_nil, y_cons, y_aug, frzs2_c0, frzs1_c0, es2_c0, es1_c0, tup2_c0, tup1_c0, lst2_c0, lst1_c0, bin2_c0, bin1_c0, cmp2_c0, cmp1_c0, chain4_c0, chain3_c0, chain3_c1, chain2_c0, chain1_c0, and2_c0, and2_c1, and1_c0, or2_c0, or2_c1, or1_c0, tr2_c0, tr1_c0, not2_c0, not1_c0, ite1_c0, ite1_c1, ix2_c0, ix1_c0, sl3_c0, sl2_c0, sl1_c0, isi1_c0, call1_c0, callk1_c0, blt1_c0, mth2_c0, mth1_c0, lcT2_c0, lcT1_c0, lcT1_c1, lc1_c0, ts2_c0, seq1_c0, rng1_c0, enum1_c0, sret_c0, sset_c0, sunp2_c0, sunp_c0, sseti3_c0, sseti2_c0, sseti1_c0, sstar_c0, site_c0, site_c1, sfor_c0, saug2_c0, saug1_c0, saug_c0, neg1_ok, int1_ok, ts1_ok, enum2_ok, sexpr_ok, sseti4_ok, sthn_next, sthn_ret, sthn_brk, sthn_cont, frzs_nil, frzs_cons, norm_bl, norm_int, norm_str, norm_tup, norm_lst, norm_non, take_len0, take_set, take_app, need_t, val_int, val_str, val_bl, val_tup, val_lst, val_non, look_0, look_s, tru_bl, tru_int, both, one, ixl_0, ixl_1, ixl_2, ixl_3, ixt_0, ixt_1, ixt_2, ixt_3, add_i, sub_i, lt_i, le_i, gt_i, ge_i, len_l, len_t, abs_i, int_b, frz_int, frz_str, frz_bl, frz_tup, frz_lst, frz_non, set_same, len_set, set_s, set_0, bR_some, ret_ret, eq_str, ne_str, val_new, need_nil, newL_ok, norm_new, ret_next, p18, p8, List.map_cons, List.map_nil, List.replicate, List.cons_append, List.nil_append, Option.map_some, Bool.not_true, Bool.not_false, val_ref hS, mod_i hu, fdiv_i hdiv, decide_eq_true c1, c2, c3, k1, k2, k3, k4, k5, k6, k7, m1, m2, m3, fdiv_i d1]
    · simp only [bTail, x_nil, x_cons, x_k, x_v, x_g, x_tup, x_lst, x_bin, x_neg, x_cmp, x_chain, x_and, x_or, x_not, x_ite, x_int1, x_ix, x_sl, x_isi, x_call, x_callk, x_blt, x_mth, x_lc, x_tsnil, x_ts1, x_seq, x_rng1, x_enum, y_expr, y_ret, y_retN, y_set, y_unp, y_seti, y_star, y_ite, y_for, y_pass, y_cont, y_brk, y_nil, y_cons, y_aug, frzs2_c0, frzs1_c0, es2_c0, es1_c0, tup2_c0, tup1_c0, lst2_c0, lst1_c0, bin2_c0, bin1_c0, cmp2_c0, cmp1_c0, chain4_c0, chain3_c0, chain3_c1, chain2_c0, chain1_c0, and2_c0, and2_c1, and1_c0, or2_c0, or2_c1, or1_c0, tr2_c0, tr1_c0, not2_c0, not1_c0, ite1_c0, ite1_c1, ix2_c0, ix1_c0, sl3_c0, sl2_c0, sl1_c0, isi1_c0, call1_c0, callk1_c0, blt1_c0, mth2_c0, mth1_c0, lcT2_c0, lcT1_c0, lcT1_c1, lc1_c0, ts2_c0, seq1_c0, rng1_c0, enum1_c0, sret_c0, sset_c0, sunp2_c0, sunp_c0, sseti3_c0, sseti2_c0, sseti1_c0, sstar_c0, site_c0, site_c1, sfor_c0, saug2_c0, saug1_c0, saug_c0, neg1_ok, int1_ok, ts1_ok, enum2_ok, sexpr_ok, sseti4_ok, sthn_next, sthn_ret, sthn_brk, sthn_cont, frzs_nil, frzs_cons, norm_bl, norm_int, norm_str, norm_tup, norm_lst, norm_non, take_len0, take_set, take_app, need_t, val_int, val_str, val_bl, val_tup, val_lst, val_non, look_0, look_s, tru_bl, tru_int, both, one, ixl_0, ixl_1, ixl_2, ixl_3, ixt_0, ixt_1, ixt_2, ixt_3, add_i, sub_i, lt_i, le_i, gt_i, ge_i, len_l, len_t, abs_i, int_b, frz_int, frz_str, frz_bl, frz_tup, frz_lst, frz_non, set_same, len_set, set_s, set_0, bR_some, ret_ret, eq_str, ne_str, val_new, need_nil, newL_ok, norm_new, ret_next, p18, p8, List.map_cons, List.map_nil, List.replicate, List.cons_append, List.nil_append, Option.map_some, Bool.not_true, Bool.not_false, val_ref hS, mod_i hu, fdiv_i hdiv, decide_eq_false c1, c3, k1, k2, k3, k4, k5, k6, k7, m1, m2, m3, fdiv_i d1]
theorem take_ok {T : Txt} (ok : okTxt T = true) {d : DefT} (hd : d ∈ T.ds) (hx : d.x = "_law_take") (hf : d.fn = ⟨2, 7, bTake⟩) {k W : Nat} {S : Cells} {p a : Nat} {upto : Int} (hP : Pen S p a) (ha : a < 1152921504606846976) (hu : 0 < upto) (hu2 : upto ≤ 100000000) :
    ∃ r c, callF T.prog W (k + 1) "_law_take" [.ref p, .int upto] S = .ok (.int r) (S.set p c) ∧ 0 ≤ r ∧ r < upto ∧ Pen (S.set p c) p (a + 1) := by
  obtain ⟨cs, at_, left, hS, h0, h1, hl, hc⟩ := hP
  have e := call_def (T := T) ok hd (k := k) (W := W) (ds := [.ref p, .int upto]) (S := S) (by rw [hf] <;> rfl)
  rw [hx, hf] at e
  have hp : p < S.length := (List.getElem?_eq_some_iff.mp hS).1
  have hdiv : divOk upto = true := div_ok hu (by omega)
  rw [e]
  by_cases c : 0 < left
  · refine ⟨left % upto, ⟨.mu, .lst [.lst (cs.map .int), .int at_, .int (left / upto)]⟩, ?_, Int.emod_nonneg _ (by omega), Int.emod_lt_of_pos _ hu, ⟨cs, at_, _, List.getElem?_set_self hp, h0, by omega, Int.ediv_nonneg hl (by omega), hc⟩⟩
    simp only [bTake, x_nil, x_cons, x_k, x_v, x_g, x_tup, x_lst, x_bin, x_neg, x_cmp, x_chain, x_and, x_or, x_not, x_ite, x_int1, x_ix, x_sl, x_isi, x_call, x_callk, x_blt, x_mth, x_lc, x_tsnil, x_ts1, x_seq, x_rng1, x_enum, y_expr, y_ret, y_retN, y_set, y_unp, y_seti, y_star, y_ite, y_for, y_pass, y_cont, y_brk, y_nil, y_cons, y_aug, frzs2_c0, frzs1_c0, es2_c0, es1_c0, tup2_c0, tup1_c0, lst2_c0, lst1_c0, bin2_c0, bin1_c0, cmp2_c0, cmp1_c0, chain4_c0, chain3_c0, chain3_c1, chain2_c0, chain1_c0, and2_c0, and2_c1, and1_c0, or2_c0, or2_c1, or1_c0, tr2_c0, tr1_c0, not2_c0, not1_c0, ite1_c0, ite1_c1, ix2_c0, ix1_c0, sl3_c0, sl2_c0, sl1_c0, isi1_c0, call1_c0, callk1_c0, blt1_c0, mth2_c0, mth1_c0, lcT2_c0, lcT1_c0, lcT1_c1, lc1_c0, ts2_c0, seq1_c0, rng1_c0, enum1_c0, sret_c0, sset_c0, sunp2_c0, sunp_c0, sseti3_c0, sseti2_c0, sseti1_c0, sstar_c0, site_c0, site_c1, sfor_c0, saug2_c0, saug1_c0, saug_c0, neg1_ok, int1_ok, ts1_ok, enum2_ok, sexpr_ok, sseti4_ok, sthn_next, sthn_ret, sthn_brk, sthn_cont, frzs_nil, frzs_cons, norm_bl, norm_int, norm_str, norm_tup, norm_lst, norm_non, take_len0, take_set, take_app, need_t, val_int, val_str, val_bl, val_tup, val_lst, val_non, look_0, look_s, tru_bl, tru_int, both, one, ixl_0, ixl_1, ixl_2, ixl_3, ixt_0, ixt_1, ixt_2, ixt_3, add_i, sub_i, lt_i, le_i, gt_i, ge_i, len_l, len_t, abs_i, int_b, frz_int, frz_str, frz_bl, frz_tup, frz_lst, frz_non, set_same, len_set, set_s, set_0, bR_some, ret_ret, eq_str, ne_str, val_new, need_nil, newL_ok, norm_new, ret_next, p18, p8, List.map_cons, List.map_nil, List.replicate, List.cons_append, List.nil_append, Option.map_some, Bool.not_true, Bool.not_false, val_ref hS, mod_i hu, fdiv_i hdiv, setV_at hS atN_2 frz_int, decide_eq_true c]
  · have c' : decide (0 < left) = false := decide_eq_false c
    generalize hS1 : S.set p ⟨.mu, .lst [.lst (cs.map .int), .int (at_ + 1), .int left]⟩ = S1
    have g1 : S1[p]? = some ⟨.mu, .lst [.lst (cs.map .int), .int (at_ + 1), .int left]⟩ := by rw [← hS1]; exact List.getElem?_set_self hp
    have l1 : S1.length = S.length := by rw [← hS1]; exact List.length_set
    have fin : ∀ cell : Int, retR S.length (evSs (callF T.prog W k) W bTail [some (.ref p), some (.int upto), none, some (.int at_), some (.int cell), none, none] S1) = retR S.length (evSs (callF T.prog W k) W bTake ([D.ref p, D.int upto].map some ++ List.replicate (7 - 2) none) S) →
        ∃ r c, retR S.length (evSs (callF T.prog W k) W bTake ([D.ref p, D.int upto].map some ++ List.replicate (7 - 2) none) S) = .ok (.int r) (S.set p c) ∧ 0 ≤ r ∧ r < upto ∧ Pen (S.set p c) p (a + 1) := by
      intro cell ec
      obtain ⟨r, c, e1, e2, e3, e4⟩ := tail_ok (Φ := callF T.prog W k) (W := W) (cell := cell) g1 h0 rfl h1 hl hc ha hu hu2
      rw [l1] at e1
      have e5 : S1.set p c = S.set p c := by rw [← hS1, List.set_set]
      rw [e5] at e1 e4
      exact ⟨r, c, by rw [← ec]; exact e1, e2, e3, e4⟩
    have k1 := mul_i (S := S1) (mul_l (i := 41) (j := at_) (by decide))
    have tk : S1.take S.length = S1 := List.take_of_length_le (by omega)
    cases cs with
    | nil =>
      refine fin (41 * at_ + 13) ?_
      have en := ne_nil (cs := [])
      simp only [List.map_nil, List.isEmpty_nil, Bool.not_true] at en hS1 g1 hS
      simp only [bTake, x_nil, x_cons, x_k, x_v, x_g, x_tup, x_lst, x_bin, x_neg, x_cmp, x_chain, x_and, x_or, x_not, x_ite, x_int1, x_ix, x_sl, x_isi, x_call, x_callk, x_blt, x_mth, x_lc, x_tsnil, x_ts1, x_seq, x_rng1, x_enum, y_expr, y_ret, y_retN, y_set, y_unp, y_seti, y_star, y_ite, y_for, y_pass, y_cont, y_brk, y_nil, y_cons, y_aug, frzs2_c0, frzs1_c0, es2_c0, es1_c0, tup2_c0, tup1_c0, lst2_c0, lst1_c0, bin2_c0, bin1_c0, cmp2_c0, cmp1_c0, chain4_c0, chain3_c0, chain3_c1, chain2_c0, chain1_c0, and2_c0, and2_c1, and1_c0, or2_c0, or2_c1, or1_c0, tr2_c0, tr1_c0, not2_c0, not1_c0, ite1_c0, ite1_c1, ix2_c0, ix1_c0, sl3_c0, sl2_c0, sl1_c0, isi1_c0, call1_c0, callk1_c0, blt1_c0, mth2_c0, mth1_c0, lcT2_c0, lcT1_c0, lcT1_c1, lc1_c0, ts2_c0, seq1_c0, rng1_c0, enum1_c0, sret_c0, sset_c0, sunp2_c0, sunp_c0, sseti3_c0, sseti2_c0, sseti1_c0, sstar_c0, site_c0, site_c1, sfor_c0, saug2_c0, saug1_c0, saug_c0, neg1_ok, int1_ok, ts1_ok, enum2_ok, sexpr_ok, sseti4_ok, sthn_next, sthn_ret, sthn_brk, sthn_cont, frzs_nil, frzs_cons, norm_bl, norm_int, norm_str, norm_tup, norm_lst, norm_non, take_len0, take_set, take_app, need_t, val_int, val_str, val_bl, val_tup, val_lst, val_non, look_0, look_s, tru_bl, tru_int, both, one, ixl_0, ixl_1, ixl_2, ixl_3, ixt_0, ixt_1, ixt_2, ixt_3, add_i, sub_i, lt_i, le_i, gt_i, ge_i, len_l, len_t, abs_i, int_b, frz_int, frz_str, frz_bl, frz_tup, frz_lst, frz_non, set_same, len_set, set_s, set_0, bR_some, ret_ret, eq_str, ne_str, val_new, need_nil, newL_ok, norm_new, ret_next, p18, p8, List.map_cons, List.map_nil, List.replicate, List.cons_append, List.nil_append, Option.map_some, Bool.not_true, Bool.not_false, val_ref hS, val_ref g1, mod_i hu, fdiv_i hdiv, setV_at hS atN_1 frz_int, c', hS1, k1, en, tk]
    | cons z zs =>
      have hlen : 0 < (((z :: zs).map D.int).length : Int) := by simp
      have q0 := Int.emod_nonneg at_ (b := (((z :: zs).map D.int).length : Int)) (by omega)
      have q1 := Int.emod_lt_of_pos at_ hlen
      have hi : (at_ % (((z :: zs).map D.int).length : Int)).toNat < (z :: zs).length := by simp only [List.length_map] at q0 q1 ⊢; omega
      have hg : ((z :: zs).map D.int)[(at_ % (((z :: zs).map D.int).length : Int)).toNat]? = some (.int ((z :: zs)[(at_ % (((z :: zs).map D.int).length : Int)).toNat]'hi)) := by rw [List.getElem?_map, List.getElem?_eq_getElem hi] <;> rfl
      refine fin ((z :: zs)[(at_ % (((z :: zs).map D.int).length : Int)).toNat]'hi) ?_
      have en := ne_nil (cs := z :: zs)
      have hix := ix_at (S := S1) q0 hg
      have km := mod_i (S := S1) (i := at_) hlen
      generalize hxs : (z :: zs).map D.int = xs at *
      simp only [List.isEmpty_cons, Bool.not_false] at en
      simp only [bTake, x_nil, x_cons, x_k, x_v, x_g, x_tup, x_lst, x_bin, x_neg, x_cmp, x_chain, x_and, x_or, x_not, x_ite, x_int1, x_ix, x_sl, x_isi, x_call, x_callk, x_blt, x_mth, x_lc, x_tsnil, x_ts1, x_seq, x_rng1, x_enum, y_expr, y_ret, y_retN, y_set, y_unp, y_seti, y_star, y_ite, y_for, y_pass, y_cont, y_brk, y_nil, y_cons, y_aug, frzs2_c0, frzs1_c0, es2_c0, es1_c0, tup2_c0, tup1_c0, lst2_c0, lst1_c0, bin2_c0, bin1_c0, cmp2_c0, cmp1_c0, chain4_c0, chain3_c0, chain3_c1, chain2_c0, chain1_c0, and2_c0, and2_c1, and1_c0, or2_c0, or2_c1, or1_c0, tr2_c0, tr1_c0, not2_c0, not1_c0, ite1_c0, ite1_c1, ix2_c0, ix1_c0, sl3_c0, sl2_c0, sl1_c0, isi1_c0, call1_c0, callk1_c0, blt1_c0, mth2_c0, mth1_c0, lcT2_c0, lcT1_c0, lcT1_c1, lc1_c0, ts2_c0, seq1_c0, rng1_c0, enum1_c0, sret_c0, sset_c0, sunp2_c0, sunp_c0, sseti3_c0, sseti2_c0, sseti1_c0, sstar_c0, site_c0, site_c1, sfor_c0, saug2_c0, saug1_c0, saug_c0, neg1_ok, int1_ok, ts1_ok, enum2_ok, sexpr_ok, sseti4_ok, sthn_next, sthn_ret, sthn_brk, sthn_cont, frzs_nil, frzs_cons, norm_bl, norm_int, norm_str, norm_tup, norm_lst, norm_non, take_len0, take_set, take_app, need_t, val_int, val_str, val_bl, val_tup, val_lst, val_non, look_0, look_s, tru_bl, tru_int, both, one, ixl_0, ixl_1, ixl_2, ixl_3, ixt_0, ixt_1, ixt_2, ixt_3, add_i, sub_i, lt_i, le_i, gt_i, ge_i, len_l, len_t, abs_i, int_b, frz_int, frz_str, frz_bl, frz_tup, frz_lst, frz_non, set_same, len_set, set_s, set_0, bR_some, ret_ret, eq_str, ne_str, val_new, need_nil, newL_ok, norm_new, ret_next, p18, p8, List.map_cons, List.map_nil, List.replicate, List.cons_append, List.nil_append, Option.map_some, Bool.not_true, Bool.not_false, val_ref hS, val_ref g1, mod_i hu, fdiv_i hdiv, setV_at hS atN_1 frz_int, c', hS1, k1, en, tk, km, hix]
end VS

/-! VS, part Z: states with cells behind; words; texts that are told. -/
namespace VS
open PySem

/-- the cell at p changed, nothing else -/
def Upd (p : Nat) (S S' : Cells) : Prop := ∃ c, S' = S.set p c
theorem Upd.len {p : Nat} {S S' : Cells} (h : Upd p S S') : S'.length = S.length := by obtain ⟨c, rfl⟩ := h; exact List.length_set
theorem Upd.trans {p : Nat} {S S' S'' : Cells} (h : Upd p S S') (h2 : Upd p S' S'') : Upd p S S'' := by
  obtain ⟨c, rfl⟩ := h
  obtain ⟨c2, rfl⟩ := h2
  exact ⟨c2, List.set_set ..⟩
theorem Upd.get {p q : Nat} {S S' : Cells} (h : Upd p S S') (hq : q ≠ p) : S'[q]? = S[q]? := by
  obtain ⟨c, rfl⟩ := h
  exact List.getElem?_set_ne (Ne.symm hq)
section
variable {S : Cells} {n : Nat}
theorem set_app {p : Nat} {c : Cell} {L : Cells} (h : p < S.length) : (S ++ L).set p c = S.set p c ++ L := List.set_append_left _ _ h
theorem Pen.app {p a : Nat} {L : Cells} (h : Pen S p a) : Pen (S ++ L) p a := h.of (List.getElem?_append_left h.lt)
theorem get_at {S : Cells} {L : Cells} (h : S.length = n) (i : Nat) : (S ++ L)[n + i]? = L[i]? := by
  subst h; rw [List.getElem?_append_right (by omega)]; simp
theorem val_at {S : Cells} {l : Lk} {c : D} {L : Cells} (h : S.length = n) : val (S ++ ⟨l, c⟩ :: L) (.ref n) = some c := by
  subst h; simp [val]
theorem val_at1 {S : Cells} {a : Cell} {l : Lk} {c : D} {L : Cells} (h : S.length = n) : val (S ++ a :: ⟨l, c⟩ :: L) (.ref (n + 1)) = some c := by
  subst h; simp [val]
theorem val_at2 {S : Cells} {a b : Cell} {l : Lk} {c : D} {L : Cells} (h : S.length = n) : val (S ++ a :: b :: ⟨l, c⟩ :: L) (.ref (n + 2)) = some c := by
  subst h; simp [val]
theorem norm_at {m : Nat} {c : Cell} {L L2 : Cells} (h : S.length = n) (hm : m = n + L.length) : norm n (.ok (.ref m) (S ++ (L ++ c :: L2))) = .ok (.ref n) (S ++ [c]) := by
  subst h hm; simp [norm]
end
theorem take_up {T : Txt} (ok : okTxt T = true) {d : DefT} (hd : d ∈ T.ds) (hx : d.x = "_law_take") (hf : d.fn = ⟨2, 7, bTake⟩) {k W : Nat} {S L : Cells} {p a : Nat} {upto : Int} (hP : Pen S p a) (ha : a < 1152921504606846976) (hu : 0 < upto) (hu2 : upto ≤ 100000000) :
    ∃ r S', Upd p S S' ∧ callF T.prog W (k + 1) "_law_take" [.ref p, .int upto] (S ++ L) = .ok (.int r) (S' ++ L) ∧ 0 ≤ r ∧ r < upto ∧ Pen S' p (a + 1) ∧ S'.length = S.length := by
  obtain ⟨r, c, e, h1, h2, h3⟩ := take_ok ok hd hx hf (k := k) (W := W) (hP.app (L := L)) ha hu hu2
  rw [set_app hP.lt] at e h3
  refine ⟨r, S.set p c, ⟨c, rfl⟩, e, h1, h2, h3.of ?_, List.length_set⟩
  rw [List.getElem?_append_left (by rw [List.length_set]; exact hP.lt)]

theorem upd_app {p : Nat} {S L S' : Cells} (h : Upd p (S ++ L) S') (hp : p < S.length) : ∃ S1, S' = S1 ++ L ∧ Upd p S S1 := by
  obtain ⟨c, rfl⟩ := h
  exact ⟨S.set p c, set_app hp, c, rfl⟩
theorem Upd.refl {p : Nat} {S : Cells} (h : p < S.length) : Upd p S S := ⟨S[p], (List.set_getElem_self ..).symm⟩
theorem Pen.cut {S L : Cells} {p a : Nat} (h : Pen (S ++ L) p a) (hp : p < S.length) : Pen S p a := h.of (List.getElem?_append_left hp).symm
/-- cells beyond are dropped -/
theorem tk_app {S1 L : Cells} {n : Nat} (h : S1.length = n) : (S1 ++ L).take n = S1 := by subst h; exact List.take_left
theorem tk_all {S1 : Cells} {n : Nat} (h : S1.length = n) : S1.take n = S1 := List.take_of_length_le (by omega)

theorem upd_of {p : Nat} {S S' : Cells} (hl : S'.length = S.length) (hp : p < S.length) (h : ∀ i, i ≠ p → S'[i]? = S[i]?) : Upd p S S' := by
  refine ⟨S'[p]'(by omega), List.ext_getElem? fun i => ?_⟩
  by_cases hi : p = i
  · subst hi; rw [List.getElem?_set_self hp, List.getElem?_eq_getElem (by omega)]
  · rw [List.getElem?_set_ne hi]; exact h i (Ne.symm hi)

/-! ### words -/
/-- a text of at most so many plain signs -/
def Wd (n : Nat) (s : Str) : Prop := s.cps.size ≤ n ∧ ∀ c ∈ s.cps.toList, c < 128
instance (n : Nat) (s : Str) : Decidable (Wd n s) := by unfold Wd; infer_instance
theorem Wd.mono {n m : Nat} {s : Str} (h : Wd n s) (hm : n ≤ m) : Wd m s := ⟨Nat.le_trans h.1 hm, h.2⟩
theorem Wd.app {n m : Nat} {s t : Str} (h : Wd n s) (h2 : Wd m t) : Wd (n + m) (s ++ t) := by
  obtain ⟨x⟩ := s
  obtain ⟨y⟩ := t
  refine ⟨?_, fun c hc => ?_⟩
  · show (x ++ y).size ≤ n + m
    rw [Array.size_append]
    exact Nat.add_le_add h.1 h2.1
  · have hc : c ∈ (x ++ y).toList := hc
    rw [Array.toList_append, List.mem_append] at hc
    exact hc.elim (h.2 c) (h2.2 c)
theorem Wd.strOk {n : Nat} {s : Str} (h : Wd n s) : PyData.strOk s = true := by
  unfold PyData.strOk
  rw [Array.all_eq_true_iff_forall_mem]
  intro c hc
  have := h.2 c (Array.mem_toList_iff.mpr hc)
  simp; omega
theorem Wd.cut {n : Nat} {s : Str} (h : Wd n s) (i j : Nat) : Wd n ⟨(VS.cut s.cps.toList i j).toArray⟩ := by
  refine ⟨?_, fun c hc => ?_⟩
  · show (VS.cut s.cps.toList i j).toArray.size ≤ n
    unfold VS.cut
    have := h.1
    simp only [List.size_toArray, List.length_take, List.length_drop, Array.length_toList]
    omega
  · have hc : c ∈ VS.cut s.cps.toList i j := by simpa using hc
    unfold VS.cut at hc
    exact h.2 c (List.mem_of_mem_drop (List.mem_of_mem_take hc))
theorem Wd.one {c : Nat} (h : c < 128) : Wd 1 ⟨#[c]⟩ := ⟨Nat.le_refl _, fun d hd => by
  have : d = c := by simpa using hd
  rw [this]; exact h⟩
theorem wd_glue {n : Nat} {g : Str} (hg : g.cps = #[]) : ∀ {ws : List Str} {acc : Array Nat} {m : Nat}, (∀ w ∈ ws, Wd n w) → Wd m ⟨acc⟩ → Wd (m + n * ws.length) ⟨ws.foldl (fun acc p => acc ++ g.cps ++ p.cps) acc⟩
  | [], acc, m, _, h => by simpa using h
  | w :: ws, acc, m, hw, h => by
    have h1 : Wd (m + n) ⟨acc ++ g.cps ++ w.cps⟩ := by
      rw [hg, Array.append_empty]
      exact h.app (hw w List.mem_cons_self)
    have := wd_glue hg (ws := ws) (acc := acc ++ g.cps ++ w.cps) (fun v hv => hw v (List.mem_cons_of_mem _ hv)) h1
    rw [List.length_cons, Nat.mul_succ, show m + (n * ws.length + n) = m + n + n * ws.length by omega]
    exact this
theorem wd_join {n : Nat} {g : Str} (hg : g.cps = #[]) {ws : List Str} (hw : ∀ w ∈ ws, Wd n w) : Wd (n * ws.length) (Txt.join g ws) := by
  cases ws with
  | nil => exact ⟨by show (0 : Nat) ≤ _; omega, fun c hc => by cases hc⟩
  | cons w ws =>
    have := wd_glue hg (ws := ws) (acc := w.cps) (m := n) (fun v hv => hw v (List.mem_cons_of_mem _ hv)) (hw w List.mem_cons_self)
    rw [List.length_cons, Nat.mul_succ, Nat.add_comm]
    exact this
theorem strs_of : ∀ ws : List Str, strsD (ws.map .str) = some ws
  | [] => rfl
  | w :: ws => by show (strsD (ws.map .str)).map (w :: ·) = _; rw [strs_of ws] <;> rfl
theorem sum_le {n : Nat} : ∀ {ws : List Str}, (∀ w ∈ ws, Wd n w) → (ws.map (·.length)).sum ≤ n * ws.length
  | [], _ => by simp
  | w :: ws, h => by
    have h1 := (h w List.mem_cons_self).1
    have h2 := sum_le (ws := ws) fun v hv => h v (List.mem_cons_of_mem _ hv)
    rw [List.map_cons, List.sum_cons, List.length_cons, Nat.mul_succ]
    have : w.length = w.cps.size := rfl
    omega
theorem join_ok {S : Cells} {g : Str} (hg : g.cps = #[]) {ws : List Str} {x : D} (hx : val S x = some (.lst (ws.map .str))) (hw : ∀ w ∈ ws, Wd 1 w) (hl : ws.length ≤ 1000) : mthV .join (.str g) [x] S = .ok (.str (Txt.join g ws)) S := by
  have h1 := sum_le hw
  have h2 : g.length = 0 := by show g.cps.size = 0; rw [hg] <;> rfl
  show one x S _ = _
  unfold one
  rw [hx]
  show (match strsD (ws.map .str) with | some ss => _ | none => _) = _
  rw [strs_of]
  show R.need (decide ((ws.map (·.length)).sum + ws.length * g.length ≤ line)) _ = _
  rw [decide_eq_true (by rw [h2]; unfold line; omega)]
  rfl

/-! ### comprehensions, texts by places -/
theorem comp_ok {n : Nat} {xs ys : List D} {f : D → Cells → R (List D)} {S S1 : Cells} (h : turns f xs S = .ok ys S1) (hl : ys.length ≤ 1000000) (hn : S1.length = n) : comp n (xs, none) f S = .ok (.ref n) (S1 ++ [⟨.mu, .lst ys⟩]) := by
  unfold comp
  rw [h]
  show R.need (decide (ys.length ≤ line)) (newL ys (S1.take n)) = _
  rw [decide_eq_true (by unfold line; omega), List.take_of_length_le (by omega)]
  show R.ok (D.ref S1.length) _ = _
  rw [hn]
theorem rngD_len {lo : Int} {n : Nat} : (rngD lo n).length = n := by simp [rngD]
theorem rngD_get {lo : Int} {n i : Nat} {x : D} (h : (rngD lo n)[i]? = some x) : i < n ∧ x = .int (lo + i) := by
  have hi : i < n := by
    have := (List.getElem?_eq_some_iff.mp h).1
    rwa [rngD_len] at this
  refine ⟨hi, ?_⟩
  simp only [rngD, List.getElem?_map, List.getElem?_range hi, Option.map_some] at h
  exact (Option.some.inj h).symm
theorem rng_ok {n : Nat} {m : Int} {S : Cells} (h0 : 0 ≤ m) (h1 : m < 1000000) (hn : S.length = n) : rng1 n (.ok (.int m) S) = .ok (rngD 0 m.toNat, none) S := by
  rw [rng1_c0, decide_eq_true (by omega), decide_eq_true (by omega), List.take_of_length_le (by omega)]
  rfl
theorem need_rng {m : Int} (h0 : 0 ≤ m) (h1 : m < 1000000) {α : Type} (r : R α) : R.need (decide (m < 4611686018427387904) && decide (-4611686018427387904 ≤ m)) r = r := by
  rw [decide_eq_true (by omega), decide_eq_true (by omega)] <;> rfl
theorem len_str {S : Cells} {n : Nat} {s : Str} (h : Wd n s) (hn : n ≤ 1000000) : bltV .len [.str s] S = .ok (.int s.cps.size) S := by
  show R.need (decide (s.length ≤ line)) (R.ok (D.int s.length) S) = _
  rw [decide_eq_true (by have := h.1; show s.cps.size ≤ line; unfold line; omega)]
  rfl
theorem cut_map {α β : Type} (f : α → β) (xs : List α) (i j : Nat) : cut (xs.map f) i j = (cut xs i j).map f := by unfold cut; rw [← List.map_drop, ← List.map_take]
theorem cut_mem {α : Type} {xs : List α} {i j : Nat} {x : α} (h : x ∈ cut xs i j) : x ∈ xs := by unfold cut at h; exact List.mem_of_mem_drop (List.mem_of_mem_take h)
theorem cut_len {α : Type} {xs : List α} {i j : Nat} : (cut xs i j).length = min (j - i) (xs.length - i) := by unfold cut; simp
theorem cat_lst {S : Cells} {xs ys : List D} (h : xs.length + ys.length ≤ 1000000) : binV .add (.lst xs) (.lst ys) S = newL (xs ++ ys) S := by
  show R.need (decide (xs.length + ys.length ≤ line)) _ = _
  rw [decide_eq_true (by unfold line; omega)]
  rfl
theorem val_1 {S : Cells} {l : Lk} {c : D} {L : Cells} : val (S ++ [⟨l, c⟩] ++ L) (.ref S.length) = some c := by simp [val]
theorem norm_2 {S : Cells} {a b c : Cell} : norm S.length (.ok (.ref (S ++ [a] ++ [b]).length) (S ++ [a] ++ [b] ++ [c])) = .ok (.ref S.length) (S ++ [c]) := by simp [norm]
theorem norm_1 {S : Cells} {a c : Cell} : norm S.length (.ok (.ref (S ++ [a]).length) (S ++ [a] ++ [c])) = .ok (.ref S.length) (S ++ [c]) := by simp [norm]
theorem frz_mid {S L : Cells} {xs : List D} {n : Nat} (h : S.length = n) : frz (.ref n) (S ++ [⟨.mu, .lst xs⟩] ++ L) = .ok (.lst xs) (S ++ [⟨.fz, .lst xs⟩] ++ L) := by
  subst h; simp [frz]
theorem frz_end {S : Cells} {xs : List D} {n : Nat} (h : S.length = n) : frz (.ref n) (S ++ [⟨.mu, .lst xs⟩]) = .ok (.lst xs) (S ++ [⟨.fz, .lst xs⟩]) := by
  subst h; simp [frz]
theorem norm_3 {S : Cells} {a b c d : Cell} : norm S.length (.ok (.ref (S ++ [a] ++ [b] ++ [c]).length) (S ++ [a] ++ [b] ++ [c] ++ [d])) = .ok (.ref S.length) (S ++ [d]) := by simp [norm]
theorem frzs_3 {S : Cells} {xs ys zs : List D} : frzs [.ref S.length, .ref (S ++ [(⟨.mu, .lst xs⟩ : Cell)]).length, .ref (S ++ [(⟨.mu, .lst xs⟩ : Cell)] ++ [(⟨.mu, .lst ys⟩ : Cell)]).length] (S ++ [⟨.mu, .lst xs⟩] ++ [⟨.mu, .lst ys⟩] ++ [⟨.mu, .lst zs⟩]) =
    .ok [.lst xs, .lst ys, .lst zs] (S ++ [⟨.fz, .lst xs⟩] ++ [⟨.fz, .lst ys⟩] ++ [⟨.fz, .lst zs⟩]) := by simp [frzs, frz, R.bind]
theorem frz_a {S : Cells} {xs : List D} {b c : Cell} : frz (.ref S.length) (S ++ [⟨.mu, .lst xs⟩] ++ [b] ++ [c]) = .ok (.lst xs) (S ++ [⟨.fz, .lst xs⟩] ++ [b] ++ [c]) := by simp [frz]
theorem frz_b {S : Cells} {xs : List D} {a a' c : Cell} : frz (.ref (S ++ [a]).length) (S ++ [a'] ++ [⟨.mu, .lst xs⟩] ++ [c]) = .ok (.lst xs) (S ++ [a'] ++ [⟨.fz, .lst xs⟩] ++ [c]) := by simp [frz]
theorem frz_c {S : Cells} {xs : List D} {a a' b b' : Cell} : frz (.ref (S ++ [a] ++ [b]).length) (S ++ [a'] ++ [b'] ++ [⟨.mu, .lst xs⟩]) = .ok (.lst xs) (S ++ [a'] ++ [b'] ++ [⟨.fz, .lst xs⟩]) := by simp [frz]
theorem forE_0 {ρ : Env} {S : Cells} : forE none (.next ρ S) = .next ρ S := rfl
theorem hold_tup {n : Nat} {xs : List D} {S : Cells} : hold n (.tup xs) S = .ok (xs, none) (S.take n) := rfl
theorem hold_lst {n : Nat} {xs : List D} {S : Cells} : hold n (.lst xs) S = .ok (xs, none) (S.take n) := rfl
theorem hold_new {xs : List D} {S S' : Cells} (h : S'.length = S.length) : hold S.length (.ref S.length) (S' ++ [⟨.mu, .lst xs⟩]) = .ok (xs, none) S' := by
  rw [← h]; simp [hold]
theorem holdL_new {xs : List D} {S S' : Cells} (h : S'.length = S.length) : holdL S.length (.ref S.length) (S' ++ [⟨.mu, .lst xs⟩]) = .ok (xs, none) S' := hold_new h
theorem hold_old {m n : Nat} {xs : List D} {S : Cells} (h : S[m]? = some ⟨.mu, .lst xs⟩) (hn : S.length = n) : hold n (.ref m) S = .ok (xs, some m) (S.set m ⟨.lk, .lst xs⟩) := by
  have hm := (List.getElem?_eq_some_iff.mp h).1
  unfold hold
  dsimp only
  rw [h]
  dsimp only
  rw [if_pos (by omega), List.take_of_length_le (by omega)]
theorem comp_lk {n m : Nat} {xs ys : List D} {c : D} {f : D → Cells → R (List D)} {S S1 : Cells} (h : turns f xs S = .ok ys S1) (hl : ys.length ≤ 1000000) (hn : S1.length = n) (hc : S1[m]? = some ⟨.lk, c⟩) : comp n (xs, some m) f S = .ok (.ref n) (S1.set m ⟨.mu, c⟩ ++ [⟨.mu, .lst ys⟩]) := by
  have hf : free (some m) S1 = some (S1.set m ⟨.mu, c⟩) := by
    unfold free
    dsimp only
    rw [hc]
  unfold comp
  rw [h]
  show (match free (some m) S1 with | some S => _ | none => _) = _
  rw [hf]
  show R.need (decide (ys.length ≤ line)) (newL ys ((S1.set m ⟨.mu, c⟩).take n)) = _
  rw [decide_eq_true (by unfold line; omega), List.take_of_length_le (by simp; omega)]
  show R.ok (D.ref (S1.set m ⟨.mu, c⟩).length) _ = _
  rw [List.length_set, hn]
/-- the sign at a place -/
theorem ix_str {S : Cells} {n : Nat} {s : Str} (h : Wd n s) (hn : n ≤ 1000000) {i : Int} (h0 : 0 ≤ i) (h1 : i < s.cps.size) : ∃ t, ixV (.str s) (.int i) S = .ok (.str t) S ∧ Wd 1 t := by
  have hl : i.toNat < s.cps.toList.length := by rw [Array.length_toList]; omega
  refine ⟨⟨#[s.cps.toList[i.toNat]]⟩, ?_, Wd.one (h.2 _ (List.getElem_mem hl))⟩
  show R.need (decide (s.length ≤ line)) _ = _
  rw [decide_eq_true (by have := h.1; show s.cps.size ≤ line; unfold line; omega)]
  unfold atN
  rw [if_pos h0, if_pos hl]
  dsimp only [R.need]
  rw [if_pos rfl, List.getElem?_eq_getElem hl]
theorem sl_str {S : Cells} {n : Nat} {s : Str} (h : Wd n s) (hn : n ≤ 1000000) {lo hi : D} {i j : Nat} (h1 : bnd s.cps.toList.length 0 lo = some i) (h2 : bnd s.cps.toList.length s.cps.toList.length hi = some j) :
    ∃ t, slV (.str s) lo hi S = .ok (.str t) S ∧ Wd n t := by
  refine ⟨_, ?_, h.cut i j⟩
  show R.need (decide (s.length ≤ line)) _ = _
  rw [decide_eq_true (by have := h.1; show s.cps.size ≤ line; unfold line; omega), h1, h2]
  rfl
theorem cat_str {S : Cells} {n m : Nat} {s t : Str} (h : Wd n s) (h2 : Wd m t) (hn : n + m ≤ 1000000) : binV .add (.str s) (.str t) S = .ok (.str (s ++ t)) S := by
  show R.need (decide (s.length + t.length ≤ line)) _ = _
  rw [decide_eq_true (by have := h.1; have := h2.1; show s.cps.size + t.cps.size ≤ line; unfold line; omega)]
  rfl
theorem sl_lst {S : Cells} {xs : List D} {lo hi : D} {i j : Nat} (h1 : bnd xs.length 0 lo = some i) (h2 : bnd xs.length xs.length hi = some j) : slV (.lst xs) lo hi S = newL (cut xs i j) S := by
  show (match bnd xs.length 0 lo, bnd xs.length xs.length hi with | some i, some j => _ | _, _ => _) = _
  rw [h1, h2]
theorem bnd_int {n d : Nat} {v : Int} (h : 0 ≤ v) : bnd n d (.int v) = some (min v.toNat n) := by
  show some (if v < 0 then _ else _) = _
  rw [if_neg (by omega)]
theorem bnd_non {n d : Nat} : bnd n d .non = some d := rfl
end VS

/-! VS, terms. -/
namespace VS
open PySem

/-- texts that are told: plain data without numbers -/
structure Sm (d : D) : Prop where
  dat : d.dat = true
  sh : d.py.showable = true
  nos : PyData.intsShort 13 d.py = true
structure Sms (ds : List D) : Prop where
  dat : D.dats ds = true
  sh : PyData.showableAll (D.pys ds) = true
  nos : PyData.intsShortAll 13 (D.pys ds) = true
theorem Sms.nil : Sms [] := ⟨rfl, rfl, rfl⟩
theorem Sms.cons {d : D} {ds : List D} (h : Sm d) (h2 : Sms ds) : Sms (d :: ds) :=
  ⟨by show (d.dat && D.dats ds) = true; rw [h.dat, h2.dat] <;> rfl, by show (d.py.showable && PyData.showableAll (D.pys ds)) = true; rw [h.sh, h2.sh] <;> rfl,
    by show (PyData.intsShort 13 d.py && PyData.intsShortAll 13 (D.pys ds)) = true; rw [h.nos, h2.nos] <;> rfl⟩
theorem Sm.tup {ds : List D} (h : Sms ds) : Sm (.tup ds) := ⟨h.dat, h.sh, h.nos⟩
theorem Sm.lst {ds : List D} (h : Sms ds) : Sm (.lst ds) := ⟨h.dat, h.sh, h.nos⟩
theorem Sm.str {s : Str} (h : PyData.strOk s = true) : Sm (.str s) := ⟨h, rfl, rfl⟩
theorem Sm.wd {n : Nat} {s : Str} (h : Wd n s) : Sm (.str s) := .str h.strOk
theorem Sms.of {ds : List D} (h : ∀ d ∈ ds, Sm d) : Sms ds := by
  induction ds with
  | nil => exact .nil
  | cons d ds ih => exact .cons (h d List.mem_cons_self) (ih fun e he => h e (List.mem_cons_of_mem _ he))
/-- how much text -/
def D.wt (d : D) : Nat := d.py.weight
def D.wts (ds : List D) : Nat := PyData.weightAll (D.pys ds)
theorem wts_nil : D.wts [] = 0 := rfl
theorem wts_cons {d : D} {ds : List D} : D.wts (d :: ds) = d.wt + 1 + D.wts ds := rfl
theorem wt_tup {ds : List D} : (D.tup ds).wt = D.wts ds := rfl
theorem wt_lst {ds : List D} : (D.lst ds).wt = D.wts ds := rfl
theorem wt_str {s : Str} : (D.str s).wt = s.cps.size := rfl
theorem dep_str {s : Str} : (D.str s).dep = 0 := rfl
theorem dep_tup {ds : List D} : (D.tup ds).dep = D.deps ds + 1 := rfl
theorem dep_lst {ds : List D} : (D.lst ds).dep = D.deps ds + 1 := rfl
theorem deps_cons {d : D} {ds : List D} : D.deps (d :: ds) = max d.dep (D.deps ds) := rfl
theorem deps_nil : D.deps [] = 0 := rfl
theorem rp_of {d : D} (h : Sm d) (h1 : d.dep ≤ 64) (h2 : d.wt ≤ 1048576) : d.rp = true := by
  have lay : PyData.layable0 d.py = true := by
    show (PyData.canLay0 d.py && decide (PyData.depth d.py ≤ 64) && decide (PyData.weight d.py ≤ 2 ^ 20)) = true
    rw [lay_py d h.dat, dep_py, decide_eq_true h1, decide_eq_true (show PyData.weight d.py ≤ 2 ^ 20 from h2)]
    rfl
  have := PyData.shown_fits_of_layable0 (B := 13) (by decide) (by decide) lay h.nos
  unfold D.rp
  rw [h.dat, h.sh, decide_eq_true h1, decide_eq_true (show d.py.shown.length ≤ line by rw [line_eq]; exact this)]
  rfl
theorem repr_t {S : Cells} {ds : List D} (h : (D.tup ds).rp = true) : bltV .repr [.tup ds] S = .ok (.str (D.tup ds).py.shown) S := by
  show R.need (D.tup ds).rp _ = _
  rw [h] <;> rfl
theorem repr_l {S : Cells} {ds : List D} (h : (D.lst ds).rp = true) : bltV .repr [.lst ds] S = .ok (.str (D.lst ds).py.shown) S := by
  show R.need (D.lst ds).rp _ = _
  rw [h] <;> rfl
theorem repr_r {S : Cells} {n : Nat} {ds : List D} (hv : val S (.ref n) = some (.lst ds)) (h : (D.lst ds).rp = true) : bltV .repr [.ref n] S = .ok (.str (D.lst ds).py.shown) S := by
  show one (.ref n) S _ = _
  unfold one
  rw [hv]
  show R.need (D.lst ds).rp _ = _
  rw [h] <;> rfl

/-! ### terms, patterns -/
inductive Tm where
  | hole (s : Str)
  | name (s : Str)
  | of (w : Str) (ts : List Tm)
  | bind (w n : Str) (t : Tm)
mutual
def Tm.d : Tm → D
  | .hole s => .tup [.str "hole", .str s]
  | .name s => .tup [.str "name", .str s]
  | .of w ts => .tup [.str "of", .str w, .tup (Tm.ds ts)]
  | .bind w n t => .tup [.str "bind", .str w, .str n, t.d]
def Tm.ds : List Tm → List D
  | [] => []
  | t :: ts => t.d :: Tm.ds ts
end
mutual
/-- its parts -/
def Tm.n : Tm → Nat
  | .hole _ => 1
  | .name _ => 1
  | .of _ ts => 1 + Tm.ns ts
  | .bind _ _ t => 1 + t.n
def Tm.ns : List Tm → Nat
  | [] => 0
  | t :: ts => t.n + Tm.ns ts
end
mutual
/-- its depth -/
def Tm.h : Tm → Nat
  | .hole _ => 1
  | .name _ => 1
  | .of _ ts => 1 + Tm.hs ts
  | .bind _ _ t => 1 + t.h
def Tm.hs : List Tm → Nat
  | [] => 0
  | t :: ts => max t.h (Tm.hs ts)
end
mutual
/-- words of at most so many plain signs -/
def Tm.ok (m : Nat) : Tm → Prop
  | .hole s => Wd m s
  | .name s => Wd m s
  | .of w ts => Wd m w ∧ Tm.oks m ts
  | .bind w n t => Wd m w ∧ Wd m n ∧ t.ok m
def Tm.oks (m : Nat) : List Tm → Prop
  | [] => True
  | t :: ts => t.ok m ∧ Tm.oks m ts
end
theorem ds_map : ∀ ts : List Tm, Tm.ds ts = ts.map Tm.d
  | [] => rfl
  | t :: ts => by rw [Tm.ds, ds_map ts] <;> rfl
theorem oks_iff {m : Nat} : ∀ {ts : List Tm}, Tm.oks m ts ↔ ∀ t ∈ ts, t.ok m
  | [] => by simp [Tm.oks]
  | t :: ts => by simp [Tm.oks, oks_iff (ts := ts)]
theorem ns_app : ∀ ts us : List Tm, Tm.ns (ts ++ us) = Tm.ns ts + Tm.ns us
  | [], us => by simp [Tm.ns]
  | t :: ts, us => by rw [List.cons_append, Tm.ns, Tm.ns, ns_app ts us]; omega
theorem hs_app : ∀ ts us : List Tm, Tm.hs (ts ++ us) = max (Tm.hs ts) (Tm.hs us)
  | [], us => by simp [Tm.hs]
  | t :: ts, us => by rw [List.cons_append, Tm.hs, Tm.hs, hs_app ts us]; omega
theorem n_pos : ∀ t : Tm, 1 ≤ t.n
  | .hole _ => by rw [Tm.n]; omega
  | .name _ => by rw [Tm.n]; omega
  | .of _ _ => by rw [Tm.n]; omega
  | .bind _ _ _ => by rw [Tm.n]; omega
mutual
theorem tm_sm {m : Nat} : ∀ {t : Tm}, t.ok m → Sm t.d
  | .hole s, h => by rw [Tm.d]; rw [Tm.ok] at h; exact .tup (.cons (.str (by decide +kernel)) (.cons (.wd h) .nil))
  | .name s, h => by rw [Tm.d]; rw [Tm.ok] at h; exact .tup (.cons (.str (by decide +kernel)) (.cons (.wd h) .nil))
  | .of w ts, h => by rw [Tm.d]; rw [Tm.ok] at h; exact .tup (.cons (.str (by decide +kernel)) (.cons (.wd h.1) (.cons (.tup (tms_sm h.2)) .nil)))
  | .bind w n t, h => by rw [Tm.d]; rw [Tm.ok] at h; exact .tup (.cons (.str (by decide +kernel)) (.cons (.wd h.1) (.cons (.wd h.2.1) (.cons (tm_sm h.2.2) .nil))))
theorem tms_sm {m : Nat} : ∀ {ts : List Tm}, Tm.oks m ts → Sms (Tm.ds ts)
  | [], _ => by rw [Tm.ds]; exact .nil
  | t :: ts, h => by rw [Tm.ds]; rw [Tm.oks] at h; exact .cons (tm_sm h.1) (tms_sm h.2)
end
mutual
theorem tm_dep : ∀ t : Tm, t.d.dep ≤ 2 * t.h
  | .hole s => by rw [Tm.d, Tm.h]; simp [dep_tup, deps_cons, deps_nil, dep_str]
  | .name s => by rw [Tm.d, Tm.h]; simp [dep_tup, deps_cons, deps_nil, dep_str]
  | .of w ts => by
    have := tms_dep ts
    rw [Tm.d, Tm.h]; simp only [dep_tup, deps_cons, deps_nil, dep_str]; omega
  | .bind w n t => by
    have := tm_dep t
    rw [Tm.d, Tm.h]; simp only [dep_tup, deps_cons, deps_nil, dep_str]; omega
theorem tms_dep : ∀ ts : List Tm, D.deps (Tm.ds ts) ≤ 2 * Tm.hs ts
  | [] => by rw [Tm.ds]; simp [deps_nil]
  | t :: ts => by
    have := tm_dep t
    have := tms_dep ts
    rw [Tm.ds, Tm.hs]; simp only [deps_cons]; omega
end
mutual
theorem tm_wt {m : Nat} : ∀ {t : Tm}, t.ok m → t.d.wt + 1 ≤ (2 * m + 20) * t.n
  | .hole s, h => by
    rw [Tm.ok] at h
    have := h.1
    rw [Tm.d, Tm.n]; simp only [wt_tup, wts_cons, wts_nil, wt_str, show (Str.ofString "hole").cps.size = 4 by decide +kernel]; omega
  | .name s, h => by
    rw [Tm.ok] at h
    have := h.1
    rw [Tm.d, Tm.n]; simp only [wt_tup, wts_cons, wts_nil, wt_str, show (Str.ofString "name").cps.size = 4 by decide +kernel]; omega
  | .of w ts, h => by
    rw [Tm.ok] at h
    have := h.1.1
    have := tms_wt h.2
    rw [Tm.d, Tm.n, Nat.mul_add]; simp only [wt_tup, wts_cons, wts_nil, wt_str, show (Str.ofString "of").cps.size = 2 by decide +kernel]; omega
  | .bind w n t, h => by
    rw [Tm.ok] at h
    have := h.1.1
    have := h.2.1.1
    have := tm_wt h.2.2
    rw [Tm.d, Tm.n, Nat.mul_add]; simp only [wt_tup, wts_cons, wts_nil, wt_str, show (Str.ofString "bind").cps.size = 4 by decide +kernel]; omega
theorem tms_wt {m : Nat} : ∀ {ts : List Tm}, Tm.oks m ts → D.wts (Tm.ds ts) ≤ (2 * m + 20) * Tm.ns ts
  | [], _ => by rw [Tm.ds]; simp [wts_nil]
  | t :: ts, h => by
    rw [Tm.oks] at h
    have := tm_wt h.1
    have := tms_wt h.2
    rw [Tm.ds, Tm.ns, Nat.mul_add]; simp only [wts_cons]; omega
end

/-! ### ways down -/
def Tm.kids : Tm → List Tm
  | .hole _ => []
  | .name _ => []
  | .of _ ts => ts
  | .bind _ _ t => [t]
def Tm.bn : Tm → List Str
  | .bind _ n _ => [n]
  | _ => []
theorem kids_ns : ∀ t : Tm, t.n = 1 + Tm.ns t.kids
  | .hole _ => by rw [Tm.n, Tm.kids, Tm.ns]
  | .name _ => by rw [Tm.n, Tm.kids, Tm.ns]
  | .of _ ts => by rw [Tm.n, Tm.kids]
  | .bind _ _ t => by rw [Tm.n, Tm.kids, Tm.ns, Tm.ns, Nat.add_zero]
theorem kids_h : ∀ (t : Tm), t.h = 1 + Tm.hs t.kids
  | .hole _ => by rw [Tm.h, Tm.kids, Tm.hs]
  | .name _ => by rw [Tm.h, Tm.kids, Tm.hs]
  | .of _ ts => by rw [Tm.h, Tm.kids]
  | .bind _ _ t => by rw [Tm.h, Tm.kids, Tm.hs, Tm.hs]; omega
theorem kids_ok {m : Nat} : ∀ {t : Tm}, t.ok m → Tm.oks m t.kids
  | .hole _, _ => by rw [Tm.kids, Tm.oks]; trivial
  | .name _, _ => by rw [Tm.kids, Tm.oks]; trivial
  | .of _ ts, h => by rw [Tm.ok] at h; exact h.2
  | .bind _ _ t, h => by rw [Tm.ok] at h; rw [Tm.kids, Tm.oks, Tm.oks]; exact ⟨h.2.2, trivial⟩
theorem bn_ok {m : Nat} : ∀ {t : Tm}, t.ok m → ∀ w ∈ t.bn, Wd m w
  | .hole _, _, w, h => by cases h
  | .name _, _, w, h => by cases h
  | .of _ ts, _, w, h => by cases h
  | .bind _ n t, h, w, hw => by rw [Tm.ok] at h; rw [Tm.bn, List.mem_singleton] at hw; rw [hw]; exact h.2.1
theorem ns_mem {t : Tm} : ∀ {ts : List Tm}, t ∈ ts → t.n ≤ Tm.ns ts
  | [], h => by cases h
  | u :: ts, h => by
    rw [Tm.ns]
    rcases List.mem_cons.mp h with rfl | h
    · omega
    · have := ns_mem h; omega
theorem hs_mem {t : Tm} : ∀ {ts : List Tm}, t ∈ ts → t.h ≤ Tm.hs ts
  | [], h => by cases h
  | u :: ts, h => by
    rw [Tm.hs]
    rcases List.mem_cons.mp h with rfl | h
    · omega
    · have := hs_mem h; omega
/-- ws goes from t down by path -/
structure Way (t : Tm) (path : List Nat) (ws : List Tm) : Prop where
  len : ws.length = path.length + 1
  top : ws[0]? = some t
  step : ∀ i j, path[i]? = some j → ∃ u v, ws[i]? = some u ∧ ws[i + 1]? = some v ∧ u.kids[j]? = some v
theorem Way.nil (t : Tm) : Way t [] [t] := ⟨rfl, rfl, fun i j h => by simp at h⟩
theorem Way.more {t u v : Tm} {path : List Nat} {ws : List Tm} {j : Nat} (h : Way t path ws) (hu : ws.getLast? = some u) (hv : u.kids[j]? = some v) : Way t (path ++ [j]) (ws ++ [v]) := by
  refine ⟨by simp [h.len], ?_, fun i j' hj => ?_⟩
  · rw [List.getElem?_append_left (by rw [h.len]; omega)]; exact h.top
  · by_cases hi : i < path.length
    · rw [List.getElem?_append_left hi] at hj
      obtain ⟨a, b, h1, h2, h3⟩ := h.step i j' hj
      refine ⟨a, b, ?_, ?_, h3⟩
      · rw [List.getElem?_append_left (by rw [h.len]; omega)]; exact h1
      · rw [List.getElem?_append_left (by rw [h.len]; omega)]; exact h2
    · have hip : i = path.length := by
        have := (List.getElem?_eq_some_iff.mp hj).1
        simp at this; omega
      subst hip
      rw [List.getElem?_append_right (Nat.le_refl _)] at hj
      simp at hj
      subst hj
      refine ⟨u, v, ?_, ?_, hv⟩
      · rw [List.getElem?_append_left (by rw [h.len]; omega)]
        rw [List.getLast?_eq_getElem?, h.len] at hu
        exact hu
      · rw [List.getElem?_append_right (by rw [h.len]; omega), h.len]; simp
end VS

namespace Own
open PySem
def top (i : Nat) : PySem.Stmt := PySem.Challenge.pw_likebeneath_k16_parts_and_names_above.main.body.getD i (.Pass ⟨0, 0, 0, 0⟩)
def b_is_whole : VS.Sxs := (.cons (.ret (.and (.isi (.v 0) "int") (.and (.not (.isi (.v 0) "bool")) (.chain .le .le (.v 1) (.v 0) (.v 2)))))
    .nil)
def d_is_whole : VS.DefT := ⟨"is_whole", ⟨3, 3, b_is_whole⟩, top 4, ["thing", "least", "most"], ["thing", "least", "most"]⟩
def b_parts_of : VS.Sxs := (.cons (.ite (.cmp .eq (.ix (.v 0) (.k (.int 0))) (.k (.str "of")))
    (.cons (.ret (.ix (.v 0) (.k (.int 2))))
    .nil)
    .nil)
    (.cons (.ite (.cmp .eq (.ix (.v 0) (.k (.int 0))) (.k (.str "bind")))
    (.cons (.ret (.tup (.cons (.ix (.v 0) (.k (.int 3))) .nil)))
    .nil)
    .nil)
    (.cons (.ret (.tup .nil))
    .nil)))
def d_parts_of : VS.DefT := ⟨"parts_of", ⟨1, 1, b_parts_of⟩, top 5, ["pattern"], ["pattern"]⟩
def b_way_to : VS.Sxs := (.cons (.ite (.not (.isi (.v 1) "tuple"))
    (.cons .never
    .nil)
    .nil)
    (.cons (.set 2 (.lst (.cons (.v 0) .nil)))
    (.cons (.for (.v 3) (.seq (.v 1))
    (.cons (.set 4 (.call "parts_of" (.cons (.ix (.v 2) (.neg (.k (.int 1)))) .nil)))
    (.cons (.ite (.not (.call "is_whole" (.cons (.v 3) (.cons (.k (.int 0)) (.cons (.bin .sub (.blt .len (.cons (.v 4) .nil)) (.k (.int 1))) .nil)))))
    (.cons .never
    .nil)
    .nil)
    (.cons (.expr (.mth .append (.v 2) (.cons (.ix (.v 4) (.v 3)) .nil)))
    .nil))))
    (.cons (.ret (.v 2))
    .nil))))
def d_way_to : VS.DefT := ⟨"way_to", ⟨2, 5, b_way_to⟩, top 7, ["term", "place", "found", "at", "some"], ["term", "place"]⟩
def b_part_at : VS.Sxs := (.cons (.star [2, 3] 0 (.call "way_to" (.cons (.v 0) (.cons (.v 1) .nil))))
    (.cons (.ret (.v 3))
    .nil))
def d_part_at : VS.DefT := ⟨"part_at", ⟨2, 4, b_part_at⟩, top 8, ["term", "place", "above", "part"], ["term", "place"]⟩
def b_names_above : VS.Sxs := (.cons (.star [2, 3] 0 (.call "way_to" (.cons (.v 0) (.cons (.v 1) .nil))))
    (.cons (.ret (.lc (.ix (.v 4) (.k (.int 2))) [4] (.v 4) (.seq (.v 2)) (.cons (.cmp .eq (.ix (.v 4) (.k (.int 0))) (.k (.str "bind"))) .nil)))
    .nil))
def d_names_above : VS.DefT := ⟨"names_above", ⟨2, 5, b_names_above⟩, top 9, ["term", "place", "above", "part", "one"], ["term", "place"]⟩
def b__law_pen : VS.Sxs := (.cons (.ret (.lst (.cons (.lc (.v 1) [1] (.v 1) (.seq (.sl (.v 0) (.k .non) (.int1 (.k (.int 63))))) .nil) (.cons (.k (.int 0)) (.cons (.k (.int 0)) .nil)))))
    .nil)
def d__law_pen : VS.DefT := ⟨"_law_pen", ⟨1, 2, b__law_pen⟩, top 11, ["_law_script", "_law_cell"], ["_law_script"]⟩
def b__law_take : VS.Sxs := (.cons (.ite (.cmp .gt (.ix (.v 0) (.k (.int 2))) (.k (.int 0)))
    (.cons (.set 2 (.bin .mod (.ix (.v 0) (.k (.int 2))) (.v 1)))
    (.cons (.seti (.v 0) (.k (.int 2)) (.bin .fdiv (.ix (.v 0) (.k (.int 2))) (.v 1)))
    (.cons (.ret (.v 2))
    .nil)))
    .nil)
    (.cons (.set 3 (.ix (.v 0) (.k (.int 1))))
    (.cons (.seti (.v 0) (.k (.int 1)) (.bin .add (.v 3) (.k (.int 1))))
    (.cons (.set 4 (.bin .add (.bin .mul (.k (.int 41)) (.v 3)) (.k (.int 13))))
    (.cons (.ite (.cmp .ne (.ix (.v 0) (.k (.int 0))) (.lst .nil))
    (.cons (.set 4 (.ix (.ix (.v 0) (.k (.int 0))) (.bin .mod (.v 3) (.blt .len (.cons (.ix (.v 0) (.k (.int 0))) .nil)))))
    .nil)
    .nil)
    (.cons (.ite (.and (.cmp .lt (.v 3) (.blt .len (.cons (.ix (.v 0) (.k (.int 0))) .nil))) (.cmp .ge (.blt .abs (.cons (.v 4) .nil)) (.bin .pow (.k (.int 10)) (.k (.int 18)))))
    (.cons (.set 5 (.bin .add (.bin .mul (.k (.int 2)) (.bin .sub (.blt .abs (.cons (.v 4) .nil)) (.bin .pow (.k (.int 10)) (.k (.int 18))))) (.blt .int (.cons (.cmp .lt (.v 4) (.k (.int 0))) .nil))))
    (.cons (.seti (.v 0) (.k (.int 2)) (.bin .fdiv (.v 5) (.v 1)))
    (.cons (.ret (.bin .mod (.v 5) (.v 1)))
    .nil)))
    .nil)
    (.cons (.set 6 (.bin .mod (.bin .pow (.bin .add (.bin .add (.bin .add (.bin .mod (.v 4) (.k (.int 2147483629))) (.bin .mul (.k (.int 40709)) (.v 3))) (.bin .mul (.bin .mul (.k (.int 7919)) (.v 3)) (.v 3))) (.k (.int 31))) (.k (.int 5))) (.k (.int 2147483647))))
    (.cons (.set 6 (.bin .mod (.bin .pow (.bin .add (.bin .add (.bin .mul (.v 6) (.k (.int 48271))) (.bin .mul (.k (.int 69621)) (.v 3))) (.k (.int 11))) (.k (.int 3))) (.k (.int 2147483587))))
    (.cons (.ite (.cmp .gt (.v 1) (.bin .pow (.k (.int 10)) (.k (.int 8))))
    (.cons (.set 6 (.bin .pow (.bin .add (.v 6) (.k (.int 17))) (.k (.int 7))))
    .nil)
    .nil)
    (.cons (.ret (.bin .mod (.bin .fdiv (.v 6) (.k (.int 7))) (.v 1)))
    .nil))))))))))
def d__law_take : VS.DefT := ⟨"_law_take", ⟨2, 7, b__law_take⟩, top 12, ["_law_pen_here", "_law_upto", "_law_found", "_law_at", "_law_cell", "_law_great", "_law_number"], ["_law_pen_here", "_law_upto"]⟩
def b__law_words : VS.Sxs := (.cons (.set 2 (.lst (.cons (.k (.str "of")) (.cons (.k (.str "name")) (.cons (.k (.str "bind")) (.cons (.k (.str "hole")) (.cons (.k (.str "a")) (.cons (.k (.str "same")) (.cons (.k (.str "rule")) .nil)))))))))
    (.cons (.set 3 (.call "_law_take" (.cons (.v 0) (.cons (.k (.int 7)) .nil))))
    (.cons (.ite (.and (.cmp .lt (.v 1) (.k (.int 8))) (.cmp .eq (.call "_law_take" (.cons (.v 0) (.cons (.k (.int 5)) .nil))) (.k (.int 0))))
    (.cons (.ret (.sl (.bin .add (.sl (.v 2) (.int1 (.v 3)) (.k .non)) (.sl (.v 2) (.k .non) (.int1 (.v 3)))) (.k .non) (.int1 (.v 1))))
    .nil)
    .nil)
    (.cons (.set 4 (.k (.str "abcdefghijklmnopqrstuvwxyz")))
    (.cons (.set 5 (.mth .join (.k (.str "")) (.cons (.lc (.ix (.v 4) (.call "_law_take" (.cons (.v 0) (.cons (.k (.int 26)) .nil)))) [9] (.v 9) (.rng1 (.call "_law_take" (.cons (.v 0) (.cons (.k (.int 6)) .nil)))) .nil) .nil)))
    (.cons (.set 6 (.call "_law_take" (.cons (.v 0) (.cons (.bin .add (.blt .len (.cons (.v 5) .nil)) (.k (.int 1))) .nil))))
    (.cons (.set 7 (.call "_law_take" (.cons (.v 0) (.cons (.k (.int 26)) .nil))))
    (.cons (.set 8 (.ix (.lst (.cons (.k (.int 1)) (.cons (.k (.int 3)) (.cons (.k (.int 5)) (.cons (.k (.int 7)) (.cons (.k (.int 9)) (.cons (.k (.int 11)) .nil))))))) (.call "_law_take" (.cons (.v 0) (.cons (.k (.int 6)) .nil)))))
    (.cons (.ret (.lc (.bin .add (.bin .add (.sl (.v 5) (.k .non) (.int1 (.v 6))) (.ix (.v 4) (.bin .mod (.bin .add (.v 7) (.bin .mul (.v 8) (.v 9))) (.k (.int 26))))) (.sl (.v 5) (.int1 (.v 6)) (.k .non))) [9] (.v 9) (.rng1 (.v 1)) .nil))
    .nil)))))))))
def d__law_words : VS.DefT := ⟨"_law_words", ⟨2, 10, b__law_words⟩, top 13, ["_law_pen_here", "_law_many", "_law_own", "_law_turn", "_law_letters", "_law_base", "_law_spot", "_law_first", "_law_leap", "_law_k"], ["_law_pen_here", "_law_many"]⟩
def b__law_kit : VS.Sxs := (.cons (.set 1 (.call "_law_words" (.cons (.v 0) (.cons (.k (.int 7)) .nil))))
    (.cons (.set 2 (.lc (.tup (.cons (.ix (.v 1) (.v 4)) (.cons (.ix (.lst (.cons (.k (.int 0)) (.cons (.k (.int 1)) (.cons (.k (.int 2)) (.cons (.k (.int 3)) (.cons (.k (.int 4)) (.cons (.bin .add (.k (.int 1)) (.call "_law_take" (.cons (.v 0) (.cons (.k (.int 4)) .nil)))) .nil))))))) (.bin .mod (.bin .add (.v 4) (.call "_law_take" (.cons (.v 0) (.cons (.k (.int 6)) .nil)))) (.k (.int 6)))) .nil))) [4] (.v 4) (.rng1 (.k (.int 5))) .nil))
    (.cons (.set 3 (.ix (.lst (.cons (.call "_law_words" (.cons (.v 0) (.cons (.k (.int 4)) .nil))) (.cons (.sl (.v 1) (.k .non) (.int1 (.k (.int 4)))) (.cons (.sl (.v 1) (.int1 (.k (.int 4))) (.k .non)) .nil)))) (.call "_law_take" (.cons (.v 0) (.cons (.k (.int 3)) .nil)))))
    (.cons (.ret (.tup (.cons (.v 2) (.cons (.sl (.v 1) (.int1 (.k (.int 5))) (.k .non)) (.cons (.v 3) .nil)))))
    .nil))))
def d__law_kit : VS.DefT := ⟨"_law_kit", ⟨1, 5, b__law_kit⟩, top 14, ["_law_pen_here", "_law_some", "_law_tops", "_law_names", "_law_k"], ["_law_pen_here"]⟩
def b__law_grown : VS.Sxs := (.cons (.unp [4, 5, 6] (.v 1))
    (.cons (.set 7 (.call "_law_take" (.cons (.v 0) (.cons (.k (.int 5)) .nil))))
    (.cons (.unp [8, 9] (.ix (.v 4) (.call "_law_take" (.cons (.v 0) (.cons (.blt .len (.cons (.v 4) .nil)) .nil)))))
    (.cons (.set 10 (.ix (.v 6) (.call "_law_take" (.cons (.v 0) (.cons (.blt .len (.cons (.v 6) .nil)) .nil)))))
    (.cons (.set 11 (.ix (.v 5) (.call "_law_take" (.cons (.v 0) (.cons (.blt .len (.cons (.v 5) .nil)) .nil)))))
    (.cons (.ite (.and (.cmp .gt (.v 7) (.k (.int 1))) (.and (.cmp .le (.v 9) (.ix (.v 3) (.k (.int 0)))) (.or (.cmp .gt (.v 2) (.k (.int 1))) (.cmp .eq (.v 9) (.k (.int 0))))))
    (.cons (.seti (.v 3) (.k (.int 0)) (.bin .sub (.ix (.v 3) (.k (.int 0))) (.v 9)))
    (.cons (.ret (.tup (.cons (.k (.str "of")) (.cons (.v 8) (.cons (.blt .tuple (.cons (.lc (.call "_law_grown" (.cons (.v 0) (.cons (.v 1) (.cons (.bin .sub (.v 2) (.k (.int 1))) (.cons (.v 3) .nil))))) [12] (.v 12) (.rng1 (.v 9)) .nil) .nil)) .nil)))))
    .nil))
    .nil)
    (.cons (.ite (.and (.cmp .eq (.v 7) (.k (.int 1))) (.and (.cmp .gt (.v 2) (.k (.int 1))) (.cmp .gt (.ix (.v 3) (.k (.int 0))) (.k (.int 0)))))
    (.cons (.seti (.v 3) (.k (.int 0)) (.bin .sub (.ix (.v 3) (.k (.int 0))) (.k (.int 1))))
    (.cons (.ret (.tup (.cons (.k (.str "bind")) (.cons (.v 11) (.cons (.v 10) (.cons (.call "_law_grown" (.cons (.v 0) (.cons (.v 1) (.cons (.bin .sub (.v 2) (.k (.int 1))) (.cons (.v 3) .nil))))) .nil))))))
    .nil))
    .nil)
    (.cons (.ret (.tup (.cons (.k (.str "name")) (.cons (.v 10) .nil))))
    .nil))))))))
def d__law_grown : VS.DefT := ⟨"_law_grown", ⟨4, 13, b__law_grown⟩, top 15, ["_law_pen_here", "_law_kit_here", "_law_deep", "_law_room", "_law_tops", "_law_binders", "_law_names", "_law_way", "_law_word", "_law_many_here", "_law_name", "_law_binder", "_law_k"], ["_law_pen_here", "_law_kit_here", "_law_deep", "_law_room"]⟩
def b__law_term : VS.Sxs := (.cons (.set 2 (.ix (.lst (.cons (.k (.int 4)) (.cons (.k (.int 12)) (.cons (.k (.int 59)) (.cons (.call "_law_take" (.cons (.v 0) (.cons (.k (.int 60)) .nil))) .nil))))) (.call "_law_take" (.cons (.v 0) (.cons (.k (.int 4)) .nil)))))
    (.cons (.ret (.call "_law_grown" (.cons (.v 0) (.cons (.v 1) (.cons (.ix (.lst (.cons (.k (.int 12)) (.cons (.bin .add (.k (.int 1)) (.call "_law_take" (.cons (.v 0) (.cons (.k (.int 12)) .nil)))) (.cons (.k (.int 4)) .nil)))) (.call "_law_take" (.cons (.v 0) (.cons (.k (.int 3)) .nil)))) (.cons (.lst (.cons (.v 2) .nil)) .nil))))))
    .nil))
def d__law_term : VS.DefT := ⟨"_law_term", ⟨2, 3, b__law_term⟩, top 16, ["_law_pen_here", "_law_kit_here", "_law_size"], ["_law_pen_here", "_law_kit_here"]⟩
def b__law_inside : VS.Sxs := (.cons (.ite (.cmp .eq (.ix (.v 0) (.k (.int 0))) (.k (.str "of")))
    (.cons (.ret (.blt .list (.cons (.ix (.v 0) (.k (.int 2))) .nil)))
    .nil)
    .nil)
    (.cons (.ret (.ite (.cmp .eq (.ix (.v 0) (.k (.int 0))) (.k (.str "bind"))) (.lst (.cons (.ix (.v 0) (.k (.int 3))) .nil)) (.lst .nil)))
    .nil))
def d__law_inside : VS.DefT := ⟨"_law_inside", ⟨1, 1, b__law_inside⟩, top 17, ["_law_one"], ["_law_one"]⟩
def b__law_spots : VS.Sxs := (.cons (.set 1 (.lst (.cons (.tup (.cons (.tup .nil) (.cons (.v 0) (.cons (.lst .nil) .nil)))) .nil)))
    (.cons (.set 2 (.lst .nil))
    (.cons (.while (.cmp .ne (.v 1) (.lst .nil))
    (.cons (.unp [3, 4, 5] (.mth .pop0 (.v 1) (.cons (.k (.int 0)) .nil)))
    (.cons (.expr (.mth .append (.v 2) (.cons (.tup (.cons (.v 3) (.cons (.v 4) (.cons (.v 5) .nil)))) .nil)))
    (.cons (.set 6 (.ite (.cmp .eq (.ix (.v 4) (.k (.int 0))) (.k (.str "bind"))) (.bin .add (.v 5) (.lst (.cons (.ix (.v 4) (.k (.int 2))) .nil))) (.v 5)))
    (.cons (.for (.tup [7, 8]) (.enum (.call "_law_inside" (.cons (.v 4) .nil)))
    (.cons (.expr (.mth .append (.v 1) (.cons (.tup (.cons (.bin .add (.v 3) (.tup (.cons (.v 7) .nil))) (.cons (.v 8) (.cons (.v 6) .nil)))) .nil)))
    .nil))
    .nil)))))
    (.cons (.ret (.v 2))
    .nil))))
def d__law_spots : VS.DefT := ⟨"_law_spots", ⟨1, 9, b__law_spots⟩, top 18, ["_law_one", "_law_left", "_law_found", "_law_spot", "_law_here", "_law_above", "_law_more", "_law_at", "_law_inner"], ["_law_one"]⟩
def b_law : VS.Sxs := (.cons (.set 1 (.call "_law_pen" (.cons (.v 0) .nil)))
    (.cons (.for (.v 2) (.rng1 (.k (.int 3)))
    (.cons (.set 3 (.call "_law_term" (.cons (.v 1) (.cons (.call "_law_kit" (.cons (.v 1) .nil)) .nil))))
    (.cons (.set 4 (.blt .repr (.cons (.v 3) .nil)))
    (.cons (.for (.tup [5, 6, 7]) (.seq (.call "_law_spots" (.cons (.v 3) .nil)))
    (.cons (.ite (.or (.cmp .ne (.blt .repr (.cons (.call "part_at" (.cons (.v 3) (.cons (.v 5) .nil))) .nil)) (.blt .repr (.cons (.v 6) .nil))) (.cmp .ne (.blt .repr (.cons (.callk "part_at" [1, 0] (.cons (.v 5) (.cons (.v 3) .nil))) .nil)) (.blt .repr (.cons (.v 6) .nil))))
    (.cons (.ret (.k (.bl false)))
    .nil)
    .nil)
    (.cons (.set 8 (.call "names_above" (.cons (.v 3) (.cons (.v 5) .nil))))
    (.cons (.ite (.cmp .ne (.blt .repr (.cons (.v 8) .nil)) (.blt .repr (.cons (.v 7) .nil)))
    (.cons (.ret (.k (.bl false)))
    .nil)
    .nil)
    (.cons (.expr (.mth .append (.v 8) (.cons (.k (.str "x")) .nil)))
    (.cons (.ite (.cmp .ne (.blt .repr (.cons (.callk "names_above" [1, 0] (.cons (.v 5) (.cons (.v 3) .nil))) .nil)) (.blt .repr (.cons (.v 7) .nil)))
    (.cons (.ret (.k (.bl false)))
    .nil)
    .nil)
    .nil))))))
    (.cons (.ite (.cmp .ne (.blt .repr (.cons (.v 3) .nil)) (.v 4))
    (.cons (.ret (.k (.bl false)))
    .nil)
    .nil)
    .nil)))))
    (.cons (.ret (.k (.bl true)))
    .nil)))
def d_law : VS.DefT := ⟨"law", ⟨1, 9, b_law⟩, top 19, ["_law_script", "_law_pen_here", "_law_turn", "_law_one", "_law_kept", "_law_spot", "_law_here", "_law_above", "_law_told"], ["_law_script"]⟩
def T : VS.Txt := ⟨[d_is_whole, d_parts_of, d_way_to, d_part_at, d_names_above, d__law_pen, d__law_take, d__law_words, d__law_kit, d__law_grown, d__law_term, d__law_inside, d__law_spots, d_law], ["abs", "bool", "enumerate", "int", "isinstance", "len", "list", "range", "repr", "tuple"], [("names_above", ["place", "term"], [1, 0]), ("part_at", ["place", "term"], [1, 0])]⟩
theorem ok : VS.okTxt T = true := by decide +kernel
end Own

namespace Own
open PySem VS

abbrev big : Nat := 1000000000000000000
theorem tk {k W : Nat} {S L : Cells} {p a : Nat} {upto : Int} (hP : Pen S p a) (ha : a < big) (hu : 0 < upto) (hu2 : upto ≤ 100000000) :
    ∃ r S', Upd p S S' ∧ callF T.prog W (k + 1) "_law_take" [.ref p, .int upto] (S ++ L) = .ok (.int r) (S' ++ L) ∧ 0 ≤ r ∧ r < upto ∧ Pen S' p (a + 1) ∧ S'.length = S.length :=
  take_up ok (d := d__law_take) (by unfold T; simp) rfl rfl hP (Nat.lt_trans ha (by decide)) hu hu2
theorem tk0 {k W : Nat} {S : Cells} {p a : Nat} {upto : Int} (hP : Pen S p a) (ha : a < big) (hu : 0 < upto) (hu2 : upto ≤ 100000000) :
    ∃ r S', Upd p S S' ∧ callF T.prog W (k + 1) "_law_take" [.ref p, .int upto] S = .ok (.int r) S' ∧ 0 ≤ r ∧ r < upto ∧ Pen S' p (a + 1) ∧ S'.length = S.length := by
  obtain ⟨r, S', h1, h2, h3⟩ := tk (k := k) (W := W) (L := []) hP ha hu hu2
  rw [List.append_nil, List.append_nil] at h2
  exact ⟨r, S', h1, h2, h3⟩

theorem letters : Wd 26 (Str.ofString "abcdefghijklmnopqrstuvwxyz") ∧ (Str.ofString "abcdefghijklmnopqrstuvwxyz").cps.size = 26 := by decide +kernel

/-- words -/
theorem words {k W : Nat} {S : Cells} {p a : Nat} {many : Int} (hP : Pen S p a) (ha : a + 100 < big) (h0 : 0 ≤ many) (h7 : many ≤ 7) :
    ∃ (ws : List Str) (S' : Cells), Upd p S S' ∧ callF T.prog W (k + 2) "_law_words" [.ref p, .int many] S = .ok (.ref S.length) (S' ++ [⟨.mu, .lst (ws.map .str)⟩]) ∧ Pen S' p (a + 100) ∧ (ws.length : Int) = many ∧ ∀ w ∈ ws, Wd 11 w := by
  have e := call_def (T := T) ok (d := d__law_words) (by unfold T; simp) (k := k + 1) (W := W) (ds := [.ref p, .int many]) (S := S) rfl
  rw [show d__law_words.x = "_law_words" from rfl] at e
  rw [e]
  have lt8 : decide (many < 8) = true := decide_eq_true (by omega)
  generalize hown : [D.str (Str.ofString "of"), D.str (Str.ofString "name"), D.str (Str.ofString "bind"), D.str (Str.ofString "hole"), D.str (Str.ofString "a"), D.str (Str.ofString "same"), D.str (Str.ofString "rule")] = own
  have ol : own.length = 7 := by rw [← hown]; rfl
  generalize hoc : (⟨.mu, .lst own⟩ : Cell) = oc
  obtain ⟨r1, S1, u1, e1, q1, q1', P1, l1⟩ := tk (k := k) (W := W) (L := [oc]) (upto := 7) hP (by unfold big at *; omega) (by decide) (by decide)
  obtain ⟨r2, S2, u2, e2, q2, q2', P2, l2⟩ := tk (k := k) (W := W) (L := [oc]) (upto := 5) P1 (by unfold big at *; omega) (by decide) (by decide)
  have ol7 : ∀ r : R D, R.need (decide (own.length ≤ line)) r = r := fun r => by rw [ol]; rfl
  have fo : frzs own S = .ok own S := by rw [← hown]; rfl
  have tk1 : ∀ {c : Cell}, (S1 ++ [c]).take (S ++ [c]).length = S1 ++ [c] := fun {c} => List.take_of_length_le (by simp [l1])
  have tk2 : ∀ {c : Cell}, (S2 ++ [c]).take (S1 ++ [c]).length = S2 ++ [c] := fun {c} => List.take_of_length_le (by simp [l2])
  by_cases c : r2 = 0
  · have c2 : cmpV .eq (.int r2) (.int 0) = some true := by
      show some (r2 == 0) = _
      simp [c]
    have hows : own = ([Str.ofString "of", Str.ofString "name", Str.ofString "bind", Str.ofString "hole", Str.ofString "a", Str.ofString "same", Str.ofString "rule"] : List Str).map D.str := hown.symm
    generalize how : ([Str.ofString "of", Str.ofString "name", Str.ofString "bind", Str.ofString "hole", Str.ofString "a", Str.ofString "same", Str.ofString "rule"] : List Str) = ows at hows
    have hw : ∀ w ∈ ows, Wd 11 w := by rw [← how]; decide +kernel
    have lw : ows.length = 7 := by rw [← how]; rfl
    have tkr : ∀ {L : Cells}, (S2 ++ L).take S.length = S2 := fun {L} => by rw [List.take_append_of_le_length (by omega)]; exact List.take_of_length_le (by omega)
    have vo : ∀ {L : Cells}, val (S2 ++ [oc] ++ L) (.ref S.length) = some (.lst own) := fun {L} => by rw [← hoc, List.append_assoc]; exact val_at (by omega)
    have vo0 : val (S2 ++ [oc]) (.ref S.length) = some (.lst own) := by rw [← hoc]; exact val_at (by omega)
    have s1 := fun S => sl_lst (S := S) (xs := own) (lo := .int r1) (hi := .non) (bnd_int q1) bnd_non
    have s2 := fun S => sl_lst (S := S) (xs := own) (lo := .non) (hi := .int r1) bnd_non (bnd_int q1)
    have b7 : min r1.toNat own.length = r1.toNat := by omega
    rw [b7] at s1 s2
    have ca := fun S => cat_lst (S := S) (xs := cut own r1.toNat own.length) (ys := cut own 0 r1.toNat) (by rw [cut_len, cut_len]; omega)
    have s3 := fun S => sl_lst (S := S) (xs := cut own r1.toNat own.length ++ cut own 0 r1.toNat) (lo := .non) (hi := .int many) bnd_non (bnd_int h0)
    have fin : ∀ {x : Cell}, norm S.length (R.ok (.ref (S2 ++ [oc]).length) (S2 ++ [oc] ++ [x])) = .ok (.ref S.length) (S2 ++ [x]) := fun {x} => by
      rw [List.append_assoc]
      exact norm_at (L := [oc]) (L2 := []) (by omega) (by simp; omega)
    refine ⟨cut (cut ows r1.toNat 7 ++ cut ows 0 r1.toNat) 0 many.toNat, S2, u1.trans u2, ?_, P2.mono (by omega), ?_, fun w h => ?_⟩
    · simp only [d__law_words, b__law_words, x_nil, x_cons, x_k, x_v, x_g, x_tup, x_lst, x_bin, x_neg, x_cmp, x_chain, x_and, x_or, x_not, x_ite, x_int1, x_ix, x_sl, x_isi, x_call, x_callk, x_blt, x_mth, x_lc, x_tsnil, x_ts1, x_seq, x_rng1, x_enum, y_expr, y_ret, y_retN, y_set, y_unp, y_seti, y_star, y_ite, y_for, y_pass, y_cont, y_brk, y_nil, y_cons, y_aug, frzs2_c0, frzs1_c0, es2_c0, es1_c0, tup2_c0, tup1_c0, lst2_c0, lst1_c0, bin2_c0, bin1_c0, cmp2_c0, cmp1_c0, chain4_c0, chain3_c0, chain3_c1, chain2_c0, chain1_c0, and2_c0, and2_c1, and1_c0, or2_c0, or2_c1, or1_c0, tr2_c0, tr1_c0, not2_c0, not1_c0, ite1_c0, ite1_c1, ix2_c0, ix1_c0, sl3_c0, sl2_c0, sl1_c0, isi1_c0, call1_c0, callk1_c0, blt1_c0, mth2_c0, mth1_c0, lcT2_c0, lcT1_c0, lcT1_c1, lc1_c0, ts2_c0, seq1_c0, rng1_c0, enum1_c0, sret_c0, sset_c0, sunp2_c0, sunp_c0, sseti3_c0, sseti2_c0, sseti1_c0, sstar_c0, site_c0, site_c1, sfor_c0, saug2_c0, saug1_c0, saug_c0, neg1_ok, int1_ok, ts1_ok, enum2_ok, sexpr_ok, sseti4_ok, sthn_next, sthn_ret, sthn_brk, sthn_cont, frzs_nil, frzs_cons, norm_bl, norm_int, norm_str, norm_tup, norm_lst, norm_non, take_len0, take_set, take_app, need_t, val_int, val_str, val_bl, val_tup, val_lst, val_non, look_0, look_s, tru_bl, tru_int, both, one, ixl_0, ixl_1, ixl_2, ixl_3, ixt_0, ixt_1, ixt_2, ixt_3, add_i, sub_i, lt_i, le_i, gt_i, ge_i, len_l, len_t, abs_i, int_b, frz_int, frz_str, frz_bl, frz_tup, frz_lst, frz_non, set_same, len_set, set_s, set_0, bR_some, ret_ret, eq_str, ne_str, val_new, need_nil, newL_ok, norm_new, ret_next, p18, p8, List.map_cons, List.map_nil, List.replicate, List.cons_append, List.nil_append, Option.map_some, Bool.not_true, Bool.not_false, e1, e2, hown, hoc, ol7, fo, tk1, tk2, lt8, c2, and2_c0, and2_c1, vo, vo0, s1, s2, ca, s3, val_1, norm_1, norm_2, fin]
      have e7 : min many.toNat (cut own r1.toNat own.length ++ cut own 0 r1.toNat).length = many.toNat := by rw [List.length_append, cut_len, cut_len]; omega
      rw [e7, ol, hows, ← cut_map, List.map_append, ← cut_map, ← cut_map]
    · rw [cut_len, List.length_append, cut_len, cut_len, lw]; omega
    · rcases List.mem_append.mp (cut_mem h) with z | z <;> exact hw w (cut_mem z)
  · have c2 : cmpV .eq (.int r2) (.int 0) = some false := by
      show some (r2 == 0) = _
      simp [c]
    obtain ⟨r3, S3, u3, e3, q3, q3', P3, l3⟩ := tk (k := k) (W := W) (L := [oc]) (upto := 6) P2 (by unfold big at *; omega) (by decide) (by decide)
    have tk3 : ∀ {c : Cell}, (S3 ++ [c]).take (S2 ++ [c]).length = S3 ++ [c] := fun {c} => List.take_of_length_le (by simp [l3])
    have rg3 := fun r => need_rng q3 (by omega) (α := Walked) r
    -- the base's letters
    have ht : ∃ (bs : List Str) (S4 : Cells), Upd p S3 S4 ∧ turns (lcTurn (callF T.prog W (k + 1)) (.ix (.v 4) (.call "_law_take" (.cons (.v 0) (.cons (.k (.int 26)) .nil)))) [9] (.v 9) .nil
        [some (.ref p), some (.int many), some (.ref S.length), some (.int r1), some (.str "abcdefghijklmnopqrstuvwxyz"), none, none, none, none, none]) (rngD 0 r3.toNat) (S3 ++ [oc]) = .ok (bs.map .str) (S4 ++ [oc]) ∧
        Pen S4 p (a + 1 + 1 + 1 + r3.toNat) ∧ bs.length = r3.toNat ∧ (∀ w ∈ bs, Wd 1 w) ∧ S4.length = S3.length := by
      obtain ⟨ys, Sx, ey, ws, S4, h1, h2, h3, h4, h5, h6, h7⟩ := turns_inv (f := lcTurn (callF T.prog W (k + 1)) (.ix (.v 4) (.call "_law_take" (.cons (.v 0) (.cons (.k (.int 26)) .nil)))) [9] (.v 9) .nil
        [some (.ref p), some (.int many), some (.ref S.length), some (.int r1), some (.str "abcdefghijklmnopqrstuvwxyz"), none, none, none, none, none])
        (fun i ys S' => ∃ (ws : List Str) (S4 : Cells), ys = ws.map .str ∧ S' = S4 ++ [oc] ∧ Upd p S3 S4 ∧ Pen S4 p (a + 1 + 1 + 1 + i) ∧ ws.length = i ∧ (∀ w ∈ ws, Wd 1 w) ∧ S4.length = S3.length)
        (xs := rngD 0 r3.toNat) (S := S3 ++ [oc]) (ys0 := []) (i0 := 0) ⟨[], S3, rfl, rfl, ⟨S3[p]'P3.lt, (List.set_getElem_self ..).symm⟩, P3, rfl, (fun w hw => nomatch hw), rfl⟩ (by
        rintro i x ys S' hx ⟨ws, S4, rfl, rfl, h3, h4, h5, h6, h7⟩
        obtain ⟨hi, rfl⟩ := rngD_get hx
        obtain ⟨r, S5, u5, e5, q5, q5', P5, l5⟩ := tk (k := k) (W := W) (L := [oc]) (upto := 26) h4 (by unfold big at *; omega) (by decide) (by decide)
        obtain ⟨t, et, wt⟩ := ix_str (S := S5 ++ [oc]) letters.1 (by decide) q5 (by rw [letters.2]; exact q5')
        have tk5 : ∀ {c : Cell}, (S5 ++ [c]).take (S4 ++ [c]).length = S5 ++ [c] := fun {c} => List.take_of_length_le (by simp [l5])
        refine ⟨[.str t], S5 ++ [oc], ?_, ws ++ [t], S5, by simp, rfl, h3.trans u5, P5, by simp [h5], fun w hw => ?_, l5.trans h7⟩
        · simp only [lcTurn, asg, wipeE, x_nil, x_cons, x_k, x_v, x_g, x_tup, x_lst, x_bin, x_neg, x_cmp, x_chain, x_and, x_or, x_not, x_ite, x_int1, x_ix, x_sl, x_isi, x_call, x_callk, x_blt, x_mth, x_lc, x_tsnil, x_ts1, x_seq, x_rng1, x_enum, y_expr, y_ret, y_retN, y_set, y_unp, y_seti, y_star, y_ite, y_for, y_pass, y_cont, y_brk, y_nil, y_cons, y_aug, frzs2_c0, frzs1_c0, es2_c0, es1_c0, tup2_c0, tup1_c0, lst2_c0, lst1_c0, bin2_c0, bin1_c0, cmp2_c0, cmp1_c0, chain4_c0, chain3_c0, chain3_c1, chain2_c0, chain1_c0, and2_c0, and2_c1, and1_c0, or2_c0, or2_c1, or1_c0, tr2_c0, tr1_c0, not2_c0, not1_c0, ite1_c0, ite1_c1, ix2_c0, ix1_c0, sl3_c0, sl2_c0, sl1_c0, isi1_c0, call1_c0, callk1_c0, blt1_c0, mth2_c0, mth1_c0, lcT2_c0, lcT1_c0, lcT1_c1, lc1_c0, ts2_c0, seq1_c0, rng1_c0, enum1_c0, sret_c0, sset_c0, sunp2_c0, sunp_c0, sseti3_c0, sseti2_c0, sseti1_c0, sstar_c0, site_c0, site_c1, sfor_c0, saug2_c0, saug1_c0, saug_c0, neg1_ok, int1_ok, ts1_ok, enum2_ok, sexpr_ok, sseti4_ok, sthn_next, sthn_ret, sthn_brk, sthn_cont, frzs_nil, frzs_cons, norm_bl, norm_int, norm_str, norm_tup, norm_lst, norm_non, take_len0, take_set, take_app, need_t, val_int, val_str, val_bl, val_tup, val_lst, val_non, look_0, look_s, tru_bl, tru_int, both, one, ixl_0, ixl_1, ixl_2, ixl_3, ixt_0, ixt_1, ixt_2, ixt_3, add_i, sub_i, lt_i, le_i, gt_i, ge_i, len_l, len_t, abs_i, int_b, frz_int, frz_str, frz_bl, frz_tup, frz_lst, frz_non, set_same, len_set, set_s, set_0, bR_some, ret_ret, eq_str, ne_str, val_new, need_nil, newL_ok, norm_new, ret_next, p18, p8, List.map_cons, List.map_nil, List.replicate, List.cons_append, List.nil_append, Option.map_some, Bool.not_true, Bool.not_false, e5, tk5, et, lcT1_c0, lcT2_c0, keep]
        · rcases List.mem_append.mp hw with z | z
          · exact h6 w z
          · rw [List.mem_singleton] at z; rw [z]; exact wt)
      rw [rngD_len, Nat.zero_add] at h4 h5
      rw [List.nil_append] at h1
      rw [h1, h2] at ey
      exact ⟨ws, S4, h3, ey, h4, h5, h6, h7⟩
    obtain ⟨bs, S4, u4, e4, P4, bl, bw, l4⟩ := ht
    have cp4 : comp (S2 ++ [oc]).length (rngD 0 r3.toNat, none) (lcTurn (callF T.prog W (k + 1)) (.ix (.v 4) (.call "_law_take" (.cons (.v 0) (.cons (.k (.int 26)) .nil)))) [9] (.v 9) .nil
        [some (.ref p), some (.int many), some (.ref S.length), some (.int r1), some (.str "abcdefghijklmnopqrstuvwxyz"), none, none, none, none, none]) (S3 ++ [oc]) = .ok (.ref (S2 ++ [oc]).length) (S4 ++ [oc] ++ [(⟨.mu, .lst (bs.map .str)⟩ : Cell)]) :=
      comp_ok e4 (by simp; omega) (by simp [l4, l3])
    have jn : mthV .join (.str "") [.ref (S2 ++ [oc]).length] (S4 ++ [oc] ++ [(⟨.mu, .lst (bs.map .str)⟩ : Cell)]) = .ok (.str (Txt.join "" bs)) (S4 ++ [oc] ++ [(⟨.mu, .lst (bs.map .str)⟩ : Cell)]) :=
      join_ok (by decide) (val_at (by simp [l4, l3])) bw (by omega)
    have wb := wd_join (g := "") (by decide) bw
    rw [bl] at wb
    generalize hbase : Txt.join "" bs = base at jn wb
    have tk4 : (S4 ++ [oc] ++ [(⟨.mu, .lst (bs.map .str)⟩ : Cell)]).take (S2 ++ [oc]).length = S4 ++ [oc] := by
      rw [List.take_append_of_le_length (by simp [l4, l3])]; exact List.take_of_length_le (by simp [l4, l3])
    have ln := fun S => len_str (S := S) wb (by omega)
    have hb0 := wb.1
    obtain ⟨r5, S5, u5, e5, q5, q5', P5, l5⟩ := tk (k := k) (W := W) (L := [oc]) (upto := (base.cps.size : Int) + 1) P4 (by unfold big at *; omega) (by omega) (by omega)
    obtain ⟨r6, S6, u6, e6, q6, q6', P6, l6⟩ := tk (k := k) (W := W) (L := [oc]) (upto := 26) P5 (by unfold big at *; omega) (by decide) (by decide)
    generalize hleaps : [D.int 1, D.int 3, D.int 5, D.int 7, D.int 9, D.int 11] = leaps
    generalize hlc : (⟨.mu, .lst leaps⟩ : Cell) = lc
    have ll7 : ∀ r : R D, R.need (decide (leaps.length ≤ line)) r = r := fun r => by rw [← hleaps]; rfl
    have fl := fun S => show frzs leaps S = .ok leaps S by rw [← hleaps]; rfl
    obtain ⟨r7, S7, u7, e7, q7, q7', P7, l7⟩ := tk (k := k) (W := W) (L := [oc] ++ [lc]) (upto := 6) P6 (by unfold big at *; omega) (by decide) (by decide)
    rw [← List.append_assoc, ← List.append_assoc] at e7
    have tk5 : ∀ {c : Cell}, (S5 ++ [c]).take (S4 ++ [c]).length = S5 ++ [c] := fun {c} => List.take_of_length_le (by simp [l5])
    have tk6 : ∀ {c : Cell}, (S6 ++ [c]).take (S5 ++ [c]).length = S6 ++ [c] := fun {c} => List.take_of_length_le (by simp [l6])
    have tk7 : (S7 ++ [oc] ++ [lc]).take (S6 ++ [oc] ++ [lc]).length = S7 ++ [oc] ++ [lc] := List.take_of_length_le (by simp [l7])
    have tk7' : (S7 ++ [oc] ++ [lc]).take (S6 ++ [oc]).length = S7 ++ [oc] := by rw [List.take_append_of_le_length (by simp [l7])]; exact List.take_of_length_le (by simp [l7])
    have vl : val (S7 ++ [oc] ++ [lc]) (.ref (S6 ++ [oc]).length) = some (.lst leaps) := by rw [← hlc]; exact val_at (by simp [l7])
    have hv : ∃ v : Int, leaps[r7.toNat]? = some (.int v) ∧ 1 ≤ v ∧ v ≤ 11 := by
      have : r7 = 0 ∨ r7 = 1 ∨ r7 = 2 ∨ r7 = 3 ∨ r7 = 4 ∨ r7 = 5 := by omega
      rw [← hleaps]
      rcases this with rfl | rfl | rfl | rfl | rfl | rfl <;> exact ⟨_, rfl, by decide, by decide⟩
    obtain ⟨leap, ev, v1, v2⟩ := hv
    have ixl := ix_at (S := S7 ++ [oc] ++ [lc]) q7 ev
    have rg8 := fun r => need_rng h0 (by omega) (α := Walked) r
    have key := turns_inv (f := lcTurn (callF T.prog W (k + 1)) (.bin .add (.bin .add (.sl (.v 5) (.k .non) (.int1 (.v 6))) (.ix (.v 4) (.bin .mod (.bin .add (.v 7) (.bin .mul (.v 8) (.v 9))) (.k (.int 26))))) (.sl (.v 5) (.int1 (.v 6)) (.k .non))) [9] (.v 9) .nil
        [some (.ref p), some (.int many), some (.ref S.length), some (.int r1), some (.str "abcdefghijklmnopqrstuvwxyz"), some (.str base), some (.int r5), some (.int r6), some (.int leap), none])
        (fun i ys S' => ∃ (ws : List Str), ys = ws.map .str ∧ S' = S7 ++ [oc] ∧ ws.length = i ∧ (∀ w ∈ ws, Wd 11 w))
        (xs := rngD 0 many.toNat) (S := S7 ++ [oc]) (ys0 := []) (i0 := 0) ⟨[], rfl, rfl, rfl, (fun w hw => nomatch hw)⟩ (by
        rintro i x ys S' hx ⟨ws, rfl, rfl, h5, h6⟩
        obtain ⟨hi, rfl⟩ := rngD_get hx
        have m1 := mul_i (S := S7 ++ [oc]) (mul_l (i := leap) (j := 0 + (i : Int)) (by omega))
        have m2 := mod_i (S := S7 ++ [oc]) (i := r6 + leap * (0 + (i : Int))) (j := 26) (by decide)
        have n1 := Int.emod_nonneg (r6 + leap * (0 + (i : Int))) (b := 26) (by decide)
        have n2 := Int.emod_lt_of_pos (r6 + leap * (0 + (i : Int))) (b := 26) (by decide)
        obtain ⟨t1, et1, wt1⟩ := ix_str (S := S7 ++ [oc]) letters.1 (by decide) n1 (by rw [letters.2]; exact n2)
        obtain ⟨t2, et2, wt2⟩ := sl_str (S := S7 ++ [oc]) wb (by omega) (lo := .non) (hi := .int r5) bnd_non (bnd_int q5)
        obtain ⟨t3, et3, wt3⟩ := sl_str (S := S7 ++ [oc]) wb (by omega) (lo := .int r5) (hi := .non) (bnd_int q5) bnd_non
        have w2 := wt2.app wt1
        have w3 := w2.app wt3
        have ct1 := cat_str (S := S7 ++ [oc]) wt2 wt1 (by omega)
        have ct2 := cat_str (S := S7 ++ [oc]) w2 wt3 (by omega)
        refine ⟨[.str (t2 ++ t1 ++ t3)], S7 ++ [oc], ?_, ws ++ [t2 ++ t1 ++ t3], by simp, rfl, by simp [h5], fun w hw => ?_⟩
        · simp only [lcTurn, asg, wipeE, x_nil, x_cons, x_k, x_v, x_g, x_tup, x_lst, x_bin, x_neg, x_cmp, x_chain, x_and, x_or, x_not, x_ite, x_int1, x_ix, x_sl, x_isi, x_call, x_callk, x_blt, x_mth, x_lc, x_tsnil, x_ts1, x_seq, x_rng1, x_enum, y_expr, y_ret, y_retN, y_set, y_unp, y_seti, y_star, y_ite, y_for, y_pass, y_cont, y_brk, y_nil, y_cons, y_aug, frzs2_c0, frzs1_c0, es2_c0, es1_c0, tup2_c0, tup1_c0, lst2_c0, lst1_c0, bin2_c0, bin1_c0, cmp2_c0, cmp1_c0, chain4_c0, chain3_c0, chain3_c1, chain2_c0, chain1_c0, and2_c0, and2_c1, and1_c0, or2_c0, or2_c1, or1_c0, tr2_c0, tr1_c0, not2_c0, not1_c0, ite1_c0, ite1_c1, ix2_c0, ix1_c0, sl3_c0, sl2_c0, sl1_c0, isi1_c0, call1_c0, callk1_c0, blt1_c0, mth2_c0, mth1_c0, lcT2_c0, lcT1_c0, lcT1_c1, lc1_c0, ts2_c0, seq1_c0, rng1_c0, enum1_c0, sret_c0, sset_c0, sunp2_c0, sunp_c0, sseti3_c0, sseti2_c0, sseti1_c0, sstar_c0, site_c0, site_c1, sfor_c0, saug2_c0, saug1_c0, saug_c0, neg1_ok, int1_ok, ts1_ok, enum2_ok, sexpr_ok, sseti4_ok, sthn_next, sthn_ret, sthn_brk, sthn_cont, frzs_nil, frzs_cons, norm_bl, norm_int, norm_str, norm_tup, norm_lst, norm_non, take_len0, take_set, take_app, need_t, val_int, val_str, val_bl, val_tup, val_lst, val_non, look_0, look_s, tru_bl, tru_int, both, one, ixl_0, ixl_1, ixl_2, ixl_3, ixt_0, ixt_1, ixt_2, ixt_3, add_i, sub_i, lt_i, le_i, gt_i, ge_i, len_l, len_t, abs_i, int_b, frz_int, frz_str, frz_bl, frz_tup, frz_lst, frz_non, set_same, len_set, set_s, set_0, bR_some, ret_ret, eq_str, ne_str, val_new, need_nil, newL_ok, norm_new, ret_next, p18, p8, List.map_cons, List.map_nil, List.replicate, List.cons_append, List.nil_append, Option.map_some, Bool.not_true, Bool.not_false, lcT1_c0, lcT2_c0, keep, m1, m2, et1, et2, et3, ct1, ct2]
        · rcases List.mem_append.mp hw with z | z
          · exact h6 w z
          · rw [List.mem_singleton] at z; rw [z]; exact w3.mono (by omega))
    obtain ⟨ys, Sx, ey, ws, h1, h2, h5, h6⟩ := key
    rw [rngD_len, Nat.zero_add] at h5
    rw [List.nil_append] at h1
    rw [h1, h2] at ey
    have cp8 := comp_ok ey (by simp; omega) (n := (S7 ++ [oc]).length) rfl
    have fin : norm S.length (R.ok (.ref (S7 ++ [oc]).length) (S7 ++ [oc] ++ [(⟨.mu, .lst (ws.map .str)⟩ : Cell)])) = .ok (.ref S.length) (S7 ++ [(⟨.mu, .lst (ws.map .str)⟩ : Cell)]) := by
      rw [List.append_assoc]
      exact norm_at (L := [oc]) (L2 := []) (by omega) (by simp; omega)
    refine ⟨ws, S7, ((((u1.trans u2).trans u3).trans u4).trans ((u5.trans u6).trans u7)), ?_, P7.mono (by omega), by rw [h5]; omega, h6⟩
    simp only [d__law_words, b__law_words, x_nil, x_cons, x_k, x_v, x_g, x_tup, x_lst, x_bin, x_neg, x_cmp, x_chain, x_and, x_or, x_not, x_ite, x_int1, x_ix, x_sl, x_isi, x_call, x_callk, x_blt, x_mth, x_lc, x_tsnil, x_ts1, x_seq, x_rng1, x_enum, y_expr, y_ret, y_retN, y_set, y_unp, y_seti, y_star, y_ite, y_for, y_pass, y_cont, y_brk, y_nil, y_cons, y_aug, frzs2_c0, frzs1_c0, es2_c0, es1_c0, tup2_c0, tup1_c0, lst2_c0, lst1_c0, bin2_c0, bin1_c0, cmp2_c0, cmp1_c0, chain4_c0, chain3_c0, chain3_c1, chain2_c0, chain1_c0, and2_c0, and2_c1, and1_c0, or2_c0, or2_c1, or1_c0, tr2_c0, tr1_c0, not2_c0, not1_c0, ite1_c0, ite1_c1, ix2_c0, ix1_c0, sl3_c0, sl2_c0, sl1_c0, isi1_c0, call1_c0, callk1_c0, blt1_c0, mth2_c0, mth1_c0, lcT2_c0, lcT1_c0, lcT1_c1, lc1_c0, ts2_c0, seq1_c0, rng1_c0, enum1_c0, sret_c0, sset_c0, sunp2_c0, sunp_c0, sseti3_c0, sseti2_c0, sseti1_c0, sstar_c0, site_c0, site_c1, sfor_c0, saug2_c0, saug1_c0, saug_c0, neg1_ok, int1_ok, ts1_ok, enum2_ok, sexpr_ok, sseti4_ok, sthn_next, sthn_ret, sthn_brk, sthn_cont, frzs_nil, frzs_cons, norm_bl, norm_int, norm_str, norm_tup, norm_lst, norm_non, take_len0, take_set, take_app, need_t, val_int, val_str, val_bl, val_tup, val_lst, val_non, look_0, look_s, tru_bl, tru_int, both, one, ixl_0, ixl_1, ixl_2, ixl_3, ixt_0, ixt_1, ixt_2, ixt_3, add_i, sub_i, lt_i, le_i, gt_i, ge_i, len_l, len_t, abs_i, int_b, frz_int, frz_str, frz_bl, frz_tup, frz_lst, frz_non, set_same, len_set, set_s, set_0, bR_some, ret_ret, eq_str, ne_str, val_new, need_nil, newL_ok, norm_new, ret_next, p18, p8, List.map_cons, List.map_nil, List.replicate, List.cons_append, List.nil_append, Option.map_some, Bool.not_true, Bool.not_false, e1, e2, e3, hown, hoc, ol7, fo, tk1, tk2, tk3, lt8, c2, and2_c0, and2_c1, rg3, cp4, jn, tk4, ln, e5, tk5, e6, tk6, hleaps, hlc, fl, ll7, e7, tk7, tk7', vl, ixl, rg8, cp8, fin]

/-- the kit -/
theorem kit {k W : Nat} {S : Cells} {p a : Nat} (hP : Pen S p a) (ha : a + 1000 < big) :
    ∃ (S' : Cells) (tops : List (Str × Int)) (bs ns : List Str), Upd p S S' ∧ callF T.prog W (k + 3) "_law_kit" [.ref p] S = .ok (.tup [.lst (tops.map fun t => .tup [.str t.1, .int t.2]), .lst (bs.map .str), .lst (ns.map .str)]) S' ∧ Pen S' p (a + 1000) ∧
      tops.length = 5 ∧ bs.length = 2 ∧ (ns.length = 4 ∨ ns.length = 3) ∧ (∀ t ∈ tops, Wd 11 t.1 ∧ 0 ≤ t.2 ∧ t.2 ≤ 4) ∧ (∀ w ∈ bs, Wd 11 w) ∧ ∀ w ∈ ns, Wd 11 w := by
  have e := call_def (T := T) ok (d := d__law_kit) (by unfold T; simp) (k := k + 2) (W := W) (ds := [.ref p]) (S := S) rfl
  rw [show d__law_kit.x = "_law_kit" from rfl] at e
  rw [e]
  obtain ⟨ws, S1, u1, e1, P1, l1, w1⟩ := words (k := k) (W := W) (many := 7) hP (by unfold big at *; omega) (by decide) (by decide)
  have L1 := u1.len
  generalize hwc : (⟨.mu, .lst (ws.map .str)⟩ : Cell) = wc at e1
  have n1 : norm S.length (R.ok (.ref S.length) (S1 ++ [wc])) = .ok (.ref S.length) (S1 ++ [wc]) := norm_at (L := []) (L2 := []) L1 (by simp)
  have hp := P1.lt
  have rg := fun r => need_rng (m := 5) (by decide) (by decide) (α := Walked) r
  have vw : ∀ {Sx L : Cells}, Sx.length = S1.length → val (Sx ++ [wc] ++ L) (.ref S.length) = some (.lst (ws.map .str)) := fun {Sx L} h => by rw [← hwc, List.append_assoc]; exact val_at (by omega)
  have key := turns_inv (f := lcTurn (callF T.prog W (k + 2)) (.tup (.cons (.ix (.v 1) (.v 4)) (.cons (.ix (.lst (.cons (.k (.int 0)) (.cons (.k (.int 1)) (.cons (.k (.int 2)) (.cons (.k (.int 3)) (.cons (.k (.int 4)) (.cons (.bin .add (.k (.int 1)) (.call "_law_take" (.cons (.v 0) (.cons (.k (.int 4)) .nil)))) .nil))))))) (.bin .mod (.bin .add (.v 4) (.call "_law_take" (.cons (.v 0) (.cons (.k (.int 6)) .nil)))) (.k (.int 6)))) .nil))) [4] (.v 4) .nil
      [some (.ref p), some (.ref S.length), none, none, none])
      (fun i ys S' => ∃ (tops : List (Str × Int)) (Sx : Cells), ys = tops.map (fun t => D.tup [.str t.1, .int t.2]) ∧ S' = Sx ++ [wc] ∧ Upd p S1 Sx ∧ Pen Sx p (a + 100 + 2 * i) ∧ tops.length = i ∧ (∀ t ∈ tops, Wd 11 t.1 ∧ 0 ≤ t.2 ∧ t.2 ≤ 4) ∧ Sx.length = S1.length)
      (xs := rngD 0 5) (S := S1 ++ [wc]) (ys0 := []) (i0 := 0) ⟨[], S1, rfl, rfl, .refl hp, P1, rfl, (fun w hw => nomatch hw), rfl⟩ (by
      rintro i x ys S' hx ⟨tops, Sx, rfl, rfl, h3, h4, h5, h6, h7⟩
      obtain ⟨hi, rfl⟩ := rngD_get hx
      obtain ⟨r1, Sy, v1, f1, q1, q1', Q1, m1⟩ := tk (k := k + 1) (W := W) (L := [wc]) (upto := 4) h4 (by unfold big at *; omega) (by decide) (by decide)
      generalize hmany : [D.int 0, D.int 1, D.int 2, D.int 3, D.int 4, D.int (1 + r1)] = manys
      generalize hmc : (⟨.mu, .lst manys⟩ : Cell) = mc
      have fm := fun S => show frzs manys S = .ok manys S by rw [← hmany]; rfl
      have lm : ∀ r : R D, R.need (decide (manys.length ≤ line)) r = r := fun r => by rw [← hmany]; rfl
      obtain ⟨r2, Sz, v2, f2, q2, q2', Q2, m2⟩ := tk (k := k + 1) (W := W) (L := [wc] ++ [mc]) (upto := 6) Q1 (by unfold big at *; omega) (by decide) (by decide)
      rw [← List.append_assoc, ← List.append_assoc] at f2
      have tky : ∀ {L : Cells}, (Sy ++ [wc] ++ L).take (Sx ++ [wc]).length = Sy ++ [wc] := fun {L} => tk_app (by simp [m1])
      have tky0 : (Sy ++ [wc]).take (Sx ++ [wc]).length = Sy ++ [wc] := tk_all (by simp [m1])
      have tkz : (Sz ++ [wc] ++ [mc]).take (Sy ++ [wc] ++ [mc]).length = Sz ++ [wc] ++ [mc] := tk_all (by simp [m2])
      have tkz1 : (Sz ++ [wc] ++ [mc]).take (Sx ++ [wc]).length = Sz ++ [wc] := tk_app (by simp [m2, m1])
      have tkz2 : (Sz ++ [wc]).take (Sx ++ [wc]).length = Sz ++ [wc] := tk_all (by simp [m2, m1])
      have nm : norm (Sx ++ [wc]).length (R.ok (.ref (Sy ++ [wc]).length) (Sy ++ [wc] ++ [mc])) = .ok (.ref (Sx ++ [wc]).length) (Sy ++ [wc] ++ [mc]) := by
        have : (Sy ++ [wc]).length = (Sx ++ [wc]).length := by simp [m1]
        rw [this]
        exact norm_at (L := []) (L2 := []) this (by simp)
      have vm : val (Sz ++ [wc] ++ [mc]) (.ref (Sx ++ [wc]).length) = some (.lst manys) := by rw [← hmc]; exact val_at (by simp [m1, m2])
      have vx := vw (Sx := Sx) (L := []) h7
      rw [List.append_nil] at vx
      have hwi : (0 + (i : Int)).toNat < ws.length := by omega
      have ew : (ws.map D.str)[(0 + (i : Int)).toNat]? = some (.str (ws[(0 + (i : Int)).toNat]'hwi)) := by rw [List.getElem?_map, List.getElem?_eq_getElem hwi]; rfl
      have iw := ix_at (S := Sx ++ [wc]) (by omega) ew
      have j0 := Int.emod_nonneg (0 + (i : Int) + r2) (b := 6) (by decide)
      have j1 := Int.emod_lt_of_pos (0 + (i : Int) + r2) (b := 6) (by decide)
      have md := mod_i (S := Sz ++ [wc] ++ [mc]) (i := 0 + (i : Int) + r2) (j := 6) (by decide)
      generalize (0 + (i : Int) + r2) % 6 = j at j0 j1 md
      have hv : ∃ v : Int, manys[j.toNat]? = some (.int v) ∧ 0 ≤ v ∧ v ≤ 4 := by
        have : j = 0 ∨ j = 1 ∨ j = 2 ∨ j = 3 ∨ j = 4 ∨ j = 5 := by omega
        rw [← hmany]
        rcases this with rfl | rfl | rfl | rfl | rfl | rfl <;> exact ⟨_, rfl, by omega, by omega⟩
      obtain ⟨v, ev, z1, z2⟩ := hv
      have im := ix_at (S := Sz ++ [wc] ++ [mc]) j0 ev
      have lt2 : ∀ {x y : D} (r : R D), R.need (decide ([x, y].length ≤ line)) r = r := fun r => rfl
      refine ⟨[.tup [.str (ws[(0 + (i : Int)).toNat]'hwi), .int v]], Sz ++ [wc], ?_, tops ++ [(ws[(0 + (i : Int)).toNat]'hwi, v)], Sz, by simp, rfl, (h3.trans v1).trans v2, Q2.mono (by omega), by simp [h5], fun w hw => ?_, m2.trans (m1.trans h7)⟩
      · simp only [lcTurn, asg, wipeE, x_nil, x_cons, x_k, x_v, x_g, x_tup, x_lst, x_bin, x_neg, x_cmp, x_chain, x_and, x_or, x_not, x_ite, x_int1, x_ix, x_sl, x_isi, x_call, x_callk, x_blt, x_mth, x_lc, x_tsnil, x_ts1, x_seq, x_rng1, x_enum, y_expr, y_ret, y_retN, y_set, y_unp, y_seti, y_star, y_ite, y_for, y_pass, y_cont, y_brk, y_nil, y_cons, y_aug, frzs2_c0, frzs1_c0, es2_c0, es1_c0, tup2_c0, tup1_c0, lst2_c0, lst1_c0, bin2_c0, bin1_c0, cmp2_c0, cmp1_c0, chain4_c0, chain3_c0, chain3_c1, chain2_c0, chain1_c0, and2_c0, and2_c1, and1_c0, or2_c0, or2_c1, or1_c0, tr2_c0, tr1_c0, not2_c0, not1_c0, ite1_c0, ite1_c1, ix2_c0, ix1_c0, sl3_c0, sl2_c0, sl1_c0, isi1_c0, call1_c0, callk1_c0, blt1_c0, mth2_c0, mth1_c0, lcT2_c0, lcT1_c0, lcT1_c1, lc1_c0, ts2_c0, seq1_c0, rng1_c0, enum1_c0, sret_c0, sset_c0, sunp2_c0, sunp_c0, sseti3_c0, sseti2_c0, sseti1_c0, sstar_c0, site_c0, site_c1, sfor_c0, saug2_c0, saug1_c0, saug_c0, neg1_ok, int1_ok, ts1_ok, enum2_ok, sexpr_ok, sseti4_ok, sthn_next, sthn_ret, sthn_brk, sthn_cont, frzs_nil, frzs_cons, norm_bl, norm_int, norm_str, norm_tup, norm_lst, norm_non, take_len0, take_set, take_app, need_t, val_int, val_str, val_bl, val_tup, val_lst, val_non, look_0, look_s, tru_bl, tru_int, both, one, ixl_0, ixl_1, ixl_2, ixl_3, ixt_0, ixt_1, ixt_2, ixt_3, add_i, sub_i, lt_i, le_i, gt_i, ge_i, len_l, len_t, abs_i, int_b, frz_int, frz_str, frz_bl, frz_tup, frz_lst, frz_non, set_same, len_set, set_s, set_0, bR_some, ret_ret, eq_str, ne_str, val_new, need_nil, newL_ok, norm_new, ret_next, p18, p8, List.map_cons, List.map_nil, List.replicate, List.cons_append, List.nil_append, Option.map_some, Bool.not_true, Bool.not_false, lcT1_c0, lcT2_c0, keep, vx, iw, f1, tky0, hmany, fm, lm, hmc, nm, f2, tkz, md, vm, im, tkz1, tkz2, lt2]
      · rcases List.mem_append.mp hw with z | z
        · exact h6 w z
        · rw [List.mem_singleton] at z; rw [z]; exact ⟨w1 _ (List.getElem_mem _), z1, z2⟩)
  obtain ⟨ys, Sy, ey, tops, Sx, h1, h2, h3, h4, h5, h6, h7⟩ := key
  rw [rngD_len, Nat.zero_add] at h5 h4
  rw [List.nil_append] at h1
  rw [h1, h2] at ey
  have cp := comp_ok ey (by simp; omega) (n := (S1 ++ [wc]).length) (by simp [h7])
  generalize htc : (⟨.mu, .lst (tops.map fun t => .tup [.str t.1, .int t.2])⟩ : Cell) = tc at cp
  have t5 : (5 : Int).toNat = 5 := rfl
  have tl : (S1 ++ [wc]).length = (Sx ++ [wc]).length := by simp [h7]
  rw [tl] at cp
  have n2 : norm (S1 ++ [wc]).length = norm (Sx ++ [wc]).length := by rw [tl]
  -- names
  obtain ⟨ws2, Sv', u2, f2, P2, l2, w2⟩ := words (k := k) (W := W) (S := Sx ++ [wc] ++ [tc]) (many := 4) (h4.app.app) (by unfold big at *; omega) (by decide) (by decide)
  rw [List.append_assoc] at u2
  obtain ⟨Sv, rfl, u3⟩ := upd_app u2 h4.lt
  rw [← List.append_assoc] at f2 P2
  rw [List.append_assoc] at P2
  have P3 := P2.cut (by rw [u3.len]; exact h4.lt)
  have lv := u3.len
  have s1 := fun S => sl_lst (S := S) (xs := ws.map D.str) (lo := .non) (hi := .int 4) bnd_non (bnd_int (by decide))
  have s2 := fun S => sl_lst (S := S) (xs := ws.map D.str) (lo := .int 4) (hi := .non) (bnd_int (by decide)) bnd_non
  have s3 := fun S => sl_lst (S := S) (xs := ws.map D.str) (lo := .int 5) (hi := .non) (bnd_int (by decide)) bnd_non
  have lw : ws.length = 7 := by omega
  rw [List.length_map, lw] at s1 s2 s3
  have tA : (S1 ++ [wc]).take (Sx ++ [wc]).length = S1 ++ [wc] := tk_all (by simp [h7])
  -- the three rows of names
  have lv2 : (Sv ++ [wc] ++ [tc]).length = (Sx ++ [wc] ++ [tc]).length := by simp [lv]
  have n3 : ∀ {c : Cell}, norm (Sx ++ [wc] ++ [tc]).length (R.ok (.ref (Sx ++ [wc] ++ [tc]).length) (Sv ++ [wc] ++ [tc] ++ [c])) = .ok (.ref (Sv ++ [wc] ++ [tc]).length) (Sv ++ [wc] ++ [tc] ++ [c]) := fun {c} => by
    rw [← lv2]; exact norm_new
  have vw3 : ∀ {L : Cells}, val (Sv ++ [wc] ++ [tc] ++ L) (.ref S.length) = some (.lst (ws.map .str)) := fun {L} => by rw [List.append_assoc (Sv ++ [wc])]; exact vw (by omega)
  have vw4 : ∀ {A B : Cells}, val (Sv ++ [wc] ++ [tc] ++ A ++ B) (.ref S.length) = some (.lst (ws.map .str)) := fun {A B} => by rw [List.append_assoc (Sv ++ [wc] ++ [tc])]; exact vw3
  obtain ⟨r4, Sz, u4, f4, q4, q4', P4, l4⟩ := tk (k := k + 1) (W := W) (L := [wc] ++ [tc] ++ [(⟨.mu, .lst [.lst (ws2.map .str), .lst (cut (ws.map .str) 0 (min (Int.toNat 4) 7)), .lst (cut (ws.map .str) (min (Int.toNat 4) 7) 7)]⟩ : Cell)]) (upto := 3) P3 (by unfold big at *; omega) (by decide) (by decide)
  rw [← List.append_assoc, ← List.append_assoc, ← List.append_assoc, ← List.append_assoc] at f4
  have n4 : ∀ {a b c d : Cell}, norm (Sx ++ [wc] ++ [tc]).length (R.ok (.ref (Sv ++ [wc] ++ [tc] ++ [a] ++ [b] ++ [c]).length) (Sv ++ [wc] ++ [tc] ++ [a] ++ [b] ++ [c] ++ [d])) = .ok (.ref (Sv ++ [wc] ++ [tc]).length) (Sv ++ [wc] ++ [tc] ++ [d]) := fun {a b c d} => by
    rw [← lv2]; exact norm_3
  have need3 : ∀ {x y z : D} (r : R D), R.need (decide ([x, y, z].length ≤ line)) r = r := fun r => rfl
  have t4 : ∀ {c : Cell}, (Sz ++ [wc] ++ [tc] ++ [c]).take (Sv ++ [wc] ++ [tc] ++ [c]).length = Sz ++ [wc] ++ [tc] ++ [c] := fun {c} => tk_all (by simp [l4])
  have t4' : ∀ {c : Cell}, (Sz ++ [wc] ++ [tc] ++ [c]).take (Sx ++ [wc] ++ [tc]).length = Sz ++ [wc] ++ [tc] := fun {c} => tk_app (by simp [l4, lv])
  have v4 : ∀ {c : D}, val (Sz ++ [wc] ++ [tc] ++ [⟨.mu, c⟩]) (.ref (Sv ++ [wc] ++ [tc]).length) = some c := fun {c} => val_at (by simp [l4])
  have hns : ∃ ns : List Str, [D.lst (ws2.map .str), .lst (cut (ws.map .str) 0 (min (Int.toNat 4) 7)), .lst (cut (ws.map .str) (min (Int.toNat 4) 7) 7)][r4.toNat]? = some (.lst (ns.map .str)) ∧ (ns.length = 4 ∨ ns.length = 3) ∧ ∀ w ∈ ns, Wd 11 w := by
    have : r4 = 0 ∨ r4 = 1 ∨ r4 = 2 := by omega
    rcases this with rfl | rfl | rfl
    · exact ⟨ws2, rfl, .inl (by omega), w2⟩
    · exact ⟨cut ws 0 4, by rw [← cut_map]; rfl, .inl (by rw [cut_len, lw]; decide), fun w h => w1 w (cut_mem h)⟩
    · exact ⟨cut ws 4 7, by rw [← cut_map]; rfl, .inr (by rw [cut_len, lw]; decide), fun w h => w1 w (cut_mem h)⟩
  obtain ⟨ns, en, ln, wn⟩ := hns
  have i4 := fun S => ix_at (S := S) q4 en
  have vw5 : val (Sz ++ [wc] ++ [tc]) (.ref S.length) = some (.lst (ws.map .str)) := vw (by omega)
  have fz : ∀ {L : Cells}, frz (.ref (Sx ++ [wc]).length) (Sz ++ [wc] ++ [tc] ++ L) = .ok (.lst (tops.map fun t => .tup [.str t.1, .int t.2])) (Sz ++ [wc] ++ [⟨.fz, .lst (tops.map fun t => .tup [.str t.1, .int t.2])⟩] ++ L) := fun {L} => by
    rw [← htc]; exact frz_mid (by simp [l4, lv])
  have fz2 : ∀ {a : Cell} {xs : List D}, frz (.ref (Sz ++ [wc] ++ [tc]).length) (Sz ++ [wc] ++ [a] ++ [⟨.mu, .lst xs⟩]) = .ok (.lst xs) (Sz ++ [wc] ++ [a] ++ [⟨.fz, .lst xs⟩]) := fun {a xs} => frz_end (by simp)
  have tZ : ∀ {a b c : Cell}, (Sz ++ [a] ++ [b] ++ [c]).take (Sz ++ [wc] ++ [tc]).length = Sz ++ [a] ++ [b] := fun {a b c} => tk_app (by simp)
  have tZ2 : ∀ {a b : Cell}, (Sz ++ [a] ++ [b]).take S.length = Sz := fun {a b} => by rw [List.append_assoc]; exact tk_app (by omega)
  refine ⟨Sz, tops, cut ws 5 7, ns, ((u1.trans h3).trans u3).trans u4, ?_, P4.mono (by omega), h5, by rw [cut_len, lw]; decide, ln, h6, fun w h => w1 w (cut_mem h), wn⟩
  simp only [d__law_kit, b__law_kit, x_nil, x_cons, x_k, x_v, x_g, x_tup, x_lst, x_bin, x_neg, x_cmp, x_chain, x_and, x_or, x_not, x_ite, x_int1, x_ix, x_sl, x_isi, x_call, x_callk, x_blt, x_mth, x_lc, x_tsnil, x_ts1, x_seq, x_rng1, x_enum, y_expr, y_ret, y_retN, y_set, y_unp, y_seti, y_star, y_ite, y_for, y_pass, y_cont, y_brk, y_nil, y_cons, y_aug, frzs2_c0, frzs1_c0, es2_c0, es1_c0, tup2_c0, tup1_c0, lst2_c0, lst1_c0, bin2_c0, bin1_c0, cmp2_c0, cmp1_c0, chain4_c0, chain3_c0, chain3_c1, chain2_c0, chain1_c0, and2_c0, and2_c1, and1_c0, or2_c0, or2_c1, or1_c0, tr2_c0, tr1_c0, not2_c0, not1_c0, ite1_c0, ite1_c1, ix2_c0, ix1_c0, sl3_c0, sl2_c0, sl1_c0, isi1_c0, call1_c0, callk1_c0, blt1_c0, mth2_c0, mth1_c0, lcT2_c0, lcT1_c0, lcT1_c1, lc1_c0, ts2_c0, seq1_c0, rng1_c0, enum1_c0, sret_c0, sset_c0, sunp2_c0, sunp_c0, sseti3_c0, sseti2_c0, sseti1_c0, sstar_c0, site_c0, site_c1, sfor_c0, saug2_c0, saug1_c0, saug_c0, neg1_ok, int1_ok, ts1_ok, enum2_ok, sexpr_ok, sseti4_ok, sthn_next, sthn_ret, sthn_brk, sthn_cont, frzs_nil, frzs_cons, norm_bl, norm_int, norm_str, norm_tup, norm_lst, norm_non, take_len0, take_set, take_app, need_t, val_int, val_str, val_bl, val_tup, val_lst, val_non, look_0, look_s, tru_bl, tru_int, both, one, ixl_0, ixl_1, ixl_2, ixl_3, ixt_0, ixt_1, ixt_2, ixt_3, add_i, sub_i, lt_i, le_i, gt_i, ge_i, len_l, len_t, abs_i, int_b, frz_int, frz_str, frz_bl, frz_tup, frz_lst, frz_non, set_same, len_set, set_s, set_0, bR_some, ret_ret, eq_str, ne_str, val_new, need_nil, newL_ok, norm_new, ret_next, p18, p8, List.map_cons, List.map_nil, List.replicate, List.cons_append, List.nil_append, Option.map_some, Bool.not_true, Bool.not_false, e1, n1, rg, t5, tl, cp, f2, tA, n3, vw3, vw4, s1, s2, s3, norm_new, frz_a, frz_b, frz_c, n4, need3, f4, t4, t4', v4, i4, vw5, fz, fz2, tZ, tZ2]
  rw [← cut_map]
  rfl

/-! ### terms grown -/
def gCA : Ex := (.and (.cmp .gt (.v 7) (.k (.int 1))) (.and (.cmp .le (.v 9) (.ix (.v 3) (.k (.int 0)))) (.or (.cmp .gt (.v 2) (.k (.int 1))) (.cmp .eq (.v 9) (.k (.int 0))))))
def gCB : Ex := (.and (.cmp .eq (.v 7) (.k (.int 1))) (.and (.cmp .gt (.v 2) (.k (.int 1))) (.cmp .gt (.ix (.v 3) (.k (.int 0))) (.k (.int 0)))))
def gTA : Sxs := (.cons (.seti (.v 3) (.k (.int 0)) (.bin .sub (.ix (.v 3) (.k (.int 0))) (.v 9)))
    (.cons (.ret (.tup (.cons (.k (.str "of")) (.cons (.v 8) (.cons (.blt .tuple (.cons (.lc (.call "_law_grown" (.cons (.v 0) (.cons (.v 1) (.cons (.bin .sub (.v 2) (.k (.int 1))) (.cons (.v 3) .nil))))) [12] (.v 12) (.rng1 (.v 9)) .nil) .nil)) .nil)))))
    .nil))
def gTB : Sxs := (.cons (.seti (.v 3) (.k (.int 0)) (.bin .sub (.ix (.v 3) (.k (.int 0))) (.k (.int 1))))
    (.cons (.ret (.tup (.cons (.k (.str "bind")) (.cons (.v 11) (.cons (.v 10) (.cons (.call "_law_grown" (.cons (.v 0) (.cons (.v 1) (.cons (.bin .sub (.v 2) (.k (.int 1))) (.cons (.v 3) .nil))))) .nil))))))
    .nil))
def gC : Sxs := (.cons (.ret (.tup (.cons (.k (.str "name")) (.cons (.v 10) .nil))))
    .nil)
def gB : Sxs := (.cons (.ite gCB
    gTB
    .nil)
    gC)
def gA : Sxs := (.cons (.ite gCA
    gTA
    .nil)
    gB)
theorem g_split : b__law_grown = (.cons (.unp [4, 5, 6] (.v 1))
    (.cons (.set 7 (.call "_law_take" (.cons (.v 0) (.cons (.k (.int 5)) .nil))))
    (.cons (.unp [8, 9] (.ix (.v 4) (.call "_law_take" (.cons (.v 0) (.cons (.blt .len (.cons (.v 4) .nil)) .nil)))))
    (.cons (.set 10 (.ix (.v 6) (.call "_law_take" (.cons (.v 0) (.cons (.blt .len (.cons (.v 6) .nil)) .nil)))))
    (.cons (.set 11 (.ix (.v 5) (.call "_law_take" (.cons (.v 0) (.cons (.blt .len (.cons (.v 5) .nil)) .nil)))))
    gA))))) := rfl
/-- but the pen and the room nothing changed -/
def Fr (p q : Nat) (S S' : Cells) : Prop := S'.length = S.length ∧ ∀ i, i ≠ p → i ≠ q → S'[i]? = S[i]?
theorem Fr.refl (p q : Nat) (S : Cells) : Fr p q S S := ⟨rfl, fun _ _ _ => rfl⟩
theorem Fr.trans {p q : Nat} {S S' S'' : Cells} (h : Fr p q S S') (h2 : Fr p q S' S'') : Fr p q S S'' := ⟨h2.1.trans h.1, fun i a b => (h2.2 i a b).trans (h.2 i a b)⟩
theorem Fr.upd {p q : Nat} {S S' : Cells} (h : Upd p S S') : Fr p q S S' := ⟨h.len, fun i a _ => h.get a⟩
theorem Fr.set {p q : Nat} {S : Cells} {c : Cell} : Fr p q S (S.set q c) := ⟨List.length_set, fun i _ b => List.getElem?_set_ne (Ne.symm b)⟩
structure KitOk (tops : List (Str × Int)) (bs ns : List Str) : Prop where
  t0 : 0 < tops.length
  t1 : tops.length ≤ 20
  b0 : 0 < bs.length
  b1 : bs.length ≤ 20
  n0 : 0 < ns.length
  n1 : ns.length ≤ 20
  t : ∀ t ∈ tops, Wd 11 t.1 ∧ 0 ≤ t.2 ∧ t.2 ≤ 4
  b : ∀ w ∈ bs, Wd 11 w
  n : ∀ w ∈ ns, Wd 11 w
abbrev kitD (tops : List (Str × Int)) (bs ns : List Str) : D := .tup [.lst (tops.map fun t => .tup [.str t.1, .int t.2]), .lst (bs.map .str), .lst (ns.map .str)]
theorem pick {α : Type} {f : α → D} {xs : List α} {r : Int} (h0 : 0 ≤ r) (h1 : r < ((xs.map f).length : Int)) : ∃ x ∈ xs, (xs.map f)[r.toNat]? = some (f x) := by
  have hi : r.toNat < xs.length := by rw [List.length_map] at h1; omega
  exact ⟨xs[r.toNat], List.getElem_mem hi, by rw [List.getElem?_map, List.getElem?_eq_getElem hi]; rfl⟩
def grownK (d : Nat) : Prop := ∀ {k W : Nat} {S : Cells} {p q a : Nat} {room deep : Int} {tops : List (Str × Int)} {bs ns : List Str}, Pen S p a → S[q]? = some ⟨.mu, .lst [.int room]⟩ → q ≠ p → 0 ≤ room → a + 10 ^ (d + 1) < big → 1 ≤ deep → deep ≤ d → KitOk tops bs ns →
    ∃ (t : Tm) (S' : Cells) (room' : Int), callF T.prog W (k + d + 1) "_law_grown" [.ref p, kitD tops bs ns, .int deep, .ref q] S = .ok t.d S' ∧ Fr p q S S' ∧ Pen S' p (a + 10 ^ (d + 1)) ∧ S'[q]? = some ⟨.mu, .lst [.int room']⟩ ∧ 0 ≤ room' ∧ (t.n : Int) = 1 + room - room' ∧ (t.h : Int) ≤ deep ∧ t.ok 11
theorem grown_0 : grownK 0 := by
  intro k W S p q a room deep tops bs ns _ _ _ _ _ h1 h2
  omega
theorem grown_s {d : Nat} (ih : grownK d) : grownK (d + 1) := by
  intro k W S p q a room deep tops bs ns hP hq hqp hr ha h1 h2 K
  have e := call_def (T := T) ok (d := d__law_grown) (by unfold T; simp) (k := k + d + 1) (W := W) (ds := [.ref p, kitD tops bs ns, .int deep, .ref q]) (S := S) rfl
  rw [show d__law_grown.x = "_law_grown" from rfl] at e
  rw [show k + (d + 1) + 1 = k + d + 1 + 1 by omega, e]
  have hpow : 10 ^ (d + 1 + 1) = 10 * 10 ^ (d + 1) := by rw [Nat.pow_succ]; omega
  have hpos : 10 ≤ 10 ^ (d + 1) := by
    have : 0 < 10 ^ d := Nat.pow_pos (by decide)
    rw [Nat.pow_succ]; omega
  obtain ⟨r1, S1, u1, e1, p1, p1', P1, l1⟩ := tk0 (k := k + d) (W := W) (upto := 5) hP (by omega) (by decide) (by decide)
  have kt0 := K.t0
  have kt1 := K.t1
  have kn0 := K.n0
  have kn1 := K.n1
  have kb0 := K.b0
  have kb1 := K.b1
  obtain ⟨r2, S2, u2, e2, p2, p2', P2, l2⟩ := tk0 (k := k + d) (W := W) (upto := ((tops.map fun t => D.tup [.str t.1, .int t.2]).length : Int)) P1 (by omega) (by rw [List.length_map]; omega) (by rw [List.length_map]; omega)
  obtain ⟨r3, S3, u3, e3, p3, p3', P3, l3⟩ := tk0 (k := k + d) (W := W) (upto := ((ns.map D.str).length : Int)) P2 (by omega) (by rw [List.length_map]; omega) (by rw [List.length_map]; omega)
  obtain ⟨r4, S4, u4, e4, p4, p4', P4, l4⟩ := tk0 (k := k + d) (W := W) (upto := ((bs.map D.str).length : Int)) P3 (by omega) (by rw [List.length_map]; omega) (by rw [List.length_map]; omega)
  obtain ⟨⟨word, many⟩, hm, i2⟩ := pick (f := fun t : Str × Int => D.tup [.str t.1, .int t.2]) p2 p2'
  obtain ⟨name, hn, i3⟩ := pick (f := D.str) p3 p3'
  obtain ⟨binder, hb, i4⟩ := pick (f := D.str) p4 p4'
  have ix2 := fun S => ix_at (S := S) p2 i2
  have ix3 := fun S => ix_at (S := S) p3 i3
  have ix4 := fun S => ix_at (S := S) p4 i4
  obtain ⟨ww, wm0, wm1⟩ := K.t _ hm
  have wn := K.n _ hn
  have wb := K.b _ hb
  have a1 : S1.take S.length = S1 := tk_all l1
  have a2 : S2.take S1.length = S2 := tk_all l2
  have a3 : S3.take S2.length = S3 := tk_all l3
  have a4 : S4.take S3.length = S4 := tk_all l4
  simp only [d__law_grown, g_split, kitD, x_nil, x_cons, x_k, x_v, x_g, x_tup, x_lst, x_bin, x_neg, x_cmp, x_chain, x_and, x_or, x_not, x_ite, x_int1, x_ix, x_sl, x_isi, x_call, x_callk, x_blt, x_mth, x_lc, x_tsnil, x_ts1, x_seq, x_rng1, x_enum, y_expr, y_ret, y_retN, y_set, y_unp, y_seti, y_star, y_ite, y_for, y_pass, y_cont, y_brk, y_nil, y_cons, y_aug, frzs2_c0, frzs1_c0, es2_c0, es1_c0, tup2_c0, tup1_c0, lst2_c0, lst1_c0, bin2_c0, bin1_c0, cmp2_c0, cmp1_c0, chain4_c0, chain3_c0, chain3_c1, chain2_c0, chain1_c0, and2_c0, and2_c1, and1_c0, or2_c0, or2_c1, or1_c0, tr2_c0, tr1_c0, not2_c0, not1_c0, ite1_c0, ite1_c1, ix2_c0, ix1_c0, sl3_c0, sl2_c0, sl1_c0, isi1_c0, call1_c0, callk1_c0, blt1_c0, mth2_c0, mth1_c0, lcT2_c0, lcT1_c0, lcT1_c1, lc1_c0, ts2_c0, seq1_c0, rng1_c0, enum1_c0, sret_c0, sset_c0, sunp2_c0, sunp_c0, sseti3_c0, sseti2_c0, sseti1_c0, sstar_c0, site_c0, site_c1, sfor_c0, saug2_c0, saug1_c0, saug_c0, neg1_ok, int1_ok, ts1_ok, enum2_ok, sexpr_ok, sseti4_ok, sthn_next, sthn_ret, sthn_brk, sthn_cont, frzs_nil, frzs_cons, norm_bl, norm_int, norm_str, norm_tup, norm_lst, norm_non, take_len0, take_set, take_app, need_t, val_int, val_str, val_bl, val_tup, val_lst, val_non, look_0, look_s, tru_bl, tru_int, both, one, ixl_0, ixl_1, ixl_2, ixl_3, ixt_0, ixt_1, ixt_2, ixt_3, add_i, sub_i, lt_i, le_i, gt_i, ge_i, len_l, len_t, abs_i, int_b, frz_int, frz_str, frz_bl, frz_tup, frz_lst, frz_non, set_same, len_set, set_s, set_0, bR_some, ret_ret, eq_str, ne_str, val_new, need_nil, newL_ok, norm_new, ret_next, p18, p8, List.map_cons, List.map_nil, List.replicate, List.cons_append, List.nil_append, Option.map_some, Bool.not_true, Bool.not_false, asgs, e1, e2, e3, e4, ix2, ix3, ix4, a1, a2, a3, a4]
  have U := ((u1.trans u2).trans u3).trans u4
  have F4 : Fr p q S S4 := .upd U
  have q4 : S4[q]? = some ⟨.mu, .lst [.int room]⟩ := by rw [U.get hqp]; exact hq
  have vq := val_ref q4
  have lq : q < S4.length := (List.getElem?_eq_some_iff.mp q4).1
  have L4 : S4.length = S.length := U.len
  generalize hρ : [some (D.ref p), some (.tup [.lst (tops.map fun t => .tup [.str t.1, .int t.2]), .lst (bs.map D.str), .lst (ns.map D.str)]), some (.int deep), some (.ref q), some (.lst (tops.map fun t => .tup [.str t.1, .int t.2])), some (.lst (bs.map D.str)), some (.lst (ns.map D.str)), some (.int r1), some (.str word), some (.int many), some (.str name), some (.str binder), none] = ρ
  have tS4 : S4.take S.length = S4 := tk_all L4
  by_cases A : 1 < r1 ∧ many ≤ room ∧ (1 < deep ∨ many = 0)
  · obtain ⟨g1, g2, g3⟩ := A
    have hc : tr1 S4.length (evE (callF T.prog W (k + d + 1)) gCA ρ S4) = .ok (.bl true) S4 := by
      subst hρ
      by_cases g4 : 1 < deep
      · simp only [gCA, x_nil, x_cons, x_k, x_v, x_g, x_tup, x_lst, x_bin, x_neg, x_cmp, x_chain, x_and, x_or, x_not, x_ite, x_int1, x_ix, x_sl, x_isi, x_call, x_callk, x_blt, x_mth, x_lc, x_tsnil, x_ts1, x_seq, x_rng1, x_enum, y_expr, y_ret, y_retN, y_set, y_unp, y_seti, y_star, y_ite, y_for, y_pass, y_cont, y_brk, y_nil, y_cons, y_aug, frzs2_c0, frzs1_c0, es2_c0, es1_c0, tup2_c0, tup1_c0, lst2_c0, lst1_c0, bin2_c0, bin1_c0, cmp2_c0, cmp1_c0, chain4_c0, chain3_c0, chain3_c1, chain2_c0, chain1_c0, and2_c0, and2_c1, and1_c0, or2_c0, or2_c1, or1_c0, tr2_c0, tr1_c0, not2_c0, not1_c0, ite1_c0, ite1_c1, ix2_c0, ix1_c0, sl3_c0, sl2_c0, sl1_c0, isi1_c0, call1_c0, callk1_c0, blt1_c0, mth2_c0, mth1_c0, lcT2_c0, lcT1_c0, lcT1_c1, lc1_c0, ts2_c0, seq1_c0, rng1_c0, enum1_c0, sret_c0, sset_c0, sunp2_c0, sunp_c0, sseti3_c0, sseti2_c0, sseti1_c0, sstar_c0, site_c0, site_c1, sfor_c0, saug2_c0, saug1_c0, saug_c0, neg1_ok, int1_ok, ts1_ok, enum2_ok, sexpr_ok, sseti4_ok, sthn_next, sthn_ret, sthn_brk, sthn_cont, frzs_nil, frzs_cons, norm_bl, norm_int, norm_str, norm_tup, norm_lst, norm_non, take_len0, take_set, take_app, need_t, val_int, val_str, val_bl, val_tup, val_lst, val_non, look_0, look_s, tru_bl, tru_int, both, one, ixl_0, ixl_1, ixl_2, ixl_3, ixt_0, ixt_1, ixt_2, ixt_3, add_i, sub_i, lt_i, le_i, gt_i, ge_i, len_l, len_t, abs_i, int_b, frz_int, frz_str, frz_bl, frz_tup, frz_lst, frz_non, set_same, len_set, set_s, set_0, bR_some, ret_ret, eq_str, ne_str, val_new, need_nil, newL_ok, norm_new, ret_next, p18, p8, List.map_cons, List.map_nil, List.replicate, List.cons_append, List.nil_append, Option.map_some, Bool.not_true, Bool.not_false, vq, decide_eq_true g1, decide_eq_true g2, decide_eq_true g4, and2_c0, and2_c1, or2_c0, or2_c1]
      · have g5 : many = 0 := g3.resolve_left g4
        have c5 : cmpV .eq (.int many) (.int 0) = some true := by show some (many == 0) = _; simp [g5]
        simp only [gCA, x_nil, x_cons, x_k, x_v, x_g, x_tup, x_lst, x_bin, x_neg, x_cmp, x_chain, x_and, x_or, x_not, x_ite, x_int1, x_ix, x_sl, x_isi, x_call, x_callk, x_blt, x_mth, x_lc, x_tsnil, x_ts1, x_seq, x_rng1, x_enum, y_expr, y_ret, y_retN, y_set, y_unp, y_seti, y_star, y_ite, y_for, y_pass, y_cont, y_brk, y_nil, y_cons, y_aug, frzs2_c0, frzs1_c0, es2_c0, es1_c0, tup2_c0, tup1_c0, lst2_c0, lst1_c0, bin2_c0, bin1_c0, cmp2_c0, cmp1_c0, chain4_c0, chain3_c0, chain3_c1, chain2_c0, chain1_c0, and2_c0, and2_c1, and1_c0, or2_c0, or2_c1, or1_c0, tr2_c0, tr1_c0, not2_c0, not1_c0, ite1_c0, ite1_c1, ix2_c0, ix1_c0, sl3_c0, sl2_c0, sl1_c0, isi1_c0, call1_c0, callk1_c0, blt1_c0, mth2_c0, mth1_c0, lcT2_c0, lcT1_c0, lcT1_c1, lc1_c0, ts2_c0, seq1_c0, rng1_c0, enum1_c0, sret_c0, sset_c0, sunp2_c0, sunp_c0, sseti3_c0, sseti2_c0, sseti1_c0, sstar_c0, site_c0, site_c1, sfor_c0, saug2_c0, saug1_c0, saug_c0, neg1_ok, int1_ok, ts1_ok, enum2_ok, sexpr_ok, sseti4_ok, sthn_next, sthn_ret, sthn_brk, sthn_cont, frzs_nil, frzs_cons, norm_bl, norm_int, norm_str, norm_tup, norm_lst, norm_non, take_len0, take_set, take_app, need_t, val_int, val_str, val_bl, val_tup, val_lst, val_non, look_0, look_s, tru_bl, tru_int, both, one, ixl_0, ixl_1, ixl_2, ixl_3, ixt_0, ixt_1, ixt_2, ixt_3, add_i, sub_i, lt_i, le_i, gt_i, ge_i, len_l, len_t, abs_i, int_b, frz_int, frz_str, frz_bl, frz_tup, frz_lst, frz_non, set_same, len_set, set_s, set_0, bR_some, ret_ret, eq_str, ne_str, val_new, need_nil, newL_ok, norm_new, ret_next, p18, p8, List.map_cons, List.map_nil, List.replicate, List.cons_append, List.nil_append, Option.map_some, Bool.not_true, Bool.not_false, vq, decide_eq_true g1, decide_eq_true g2, decide_eq_false g4, c5, and2_c0, and2_c1, or2_c0, or2_c1]
    rw [gA, y_cons, y_ite, hc, site_c0]
    subst hρ
    have q5 : (S4.set q ⟨.mu, .lst [.int (room - many)]⟩)[q]? = some ⟨.mu, .lst [.int (room - many)]⟩ := List.getElem?_set_self lq
    have P5 : Pen (S4.set q ⟨.mu, .lst [.int (room - many)]⟩) p (a + 4) := P4.of (List.getElem?_set_ne hqp)
    have l5 : (S4.set q ⟨.mu, .lst [.int (room - many)]⟩).length = S4.length := List.length_set
    generalize hS5 : S4.set q ⟨.mu, .lst [.int (room - many)]⟩ = S5 at q5 P5 l5
    have F5 : Fr p q S S5 := by rw [← hS5]; exact F4.trans .set
    generalize hρ : [some (D.ref p), some (.tup [.lst (tops.map fun t => .tup [.str t.1, .int t.2]), .lst (bs.map D.str), .lst (ns.map D.str)]), some (.int deep), some (.ref q), some (.lst (tops.map fun t => .tup [.str t.1, .int t.2])), some (.lst (bs.map D.str)), some (.lst (ns.map D.str)), some (.int r1), some (.str word), some (.int many), some (.str name), some (.str binder), none] = ρ
    have nt := fun {S0 : Cells} (n : Nat) (t : Tm) => show norm n (.ok t.d S0) = .ok t.d (S0.take n) by cases t <;> rw [Tm.d] <;> rfl
    have ft := fun (S0 : Cells) (t : Tm) => show frz t.d S0 = .ok t.d S0 by cases t <;> rw [Tm.d] <;> rfl
    have key := turns_inv (f := lcTurn (callF T.prog W (k + d + 1)) (.call "_law_grown" (.cons (.v 0) (.cons (.v 1) (.cons (.bin .sub (.v 2) (.k (.int 1))) (.cons (.v 3) .nil))))) [12] (.v 12) .nil ρ)
      (fun i ys S' => ∃ (ts : List Tm) (room' : Int), ys = ts.map Tm.d ∧ Fr p q S5 S' ∧ Pen S' p (a + 4 + i * 10 ^ (d + 1)) ∧ S'[q]? = some ⟨.mu, .lst [.int room']⟩ ∧ 0 ≤ room' ∧ ((Tm.ns ts : Nat) : Int) = i + (room - many) - room' ∧ ((Tm.hs ts : Nat) : Int) ≤ deep - 1 ∧ ts.length = i ∧ Tm.oks 11 ts)
      (xs := rngD 0 many.toNat) (S := S5) (ys0 := []) (i0 := 0) ⟨[], room - many, rfl, .refl _ _ _, P5.mono (by omega), q5, by omega, by rw [Tm.ns]; omega, by rw [Tm.hs]; omega, rfl, by rw [Tm.oks]; trivial⟩ (by
      rintro i x ys S' hx ⟨ts, room', rfl, h3, h4, h5, h6, h7, h8, h9, h10⟩
      obtain ⟨hi, rfl⟩ := rngD_get hx
      rw [Nat.zero_add] at h4 h7 h9
      have hd : 1 < deep := g3.resolve_right (by omega)
      have him : i * 10 ^ (d + 1) ≤ 3 * 10 ^ (d + 1) := Nat.mul_le_mul_right _ (by omega)
      obtain ⟨t, S6, room2, f1, f2, f3, f4, f5, f6, f7, f8⟩ := ih (k := k) (W := W) (deep := deep - 1) h4 h5 hqp h6 (by omega) (by omega) (by omega) K
      have t6 : S6.take S'.length = S6 := tk_all f2.1
      refine ⟨[t.d], S6, ?_, ts ++ [t], room2, by simp, h3.trans f2, ?_, f4, f5, ?_, ?_, by simp [h9], ?_⟩
      · subst hρ
        simp only [lcTurn, asg, wipeE, x_nil, x_cons, x_k, x_v, x_g, x_tup, x_lst, x_bin, x_neg, x_cmp, x_chain, x_and, x_or, x_not, x_ite, x_int1, x_ix, x_sl, x_isi, x_call, x_callk, x_blt, x_mth, x_lc, x_tsnil, x_ts1, x_seq, x_rng1, x_enum, y_expr, y_ret, y_retN, y_set, y_unp, y_seti, y_star, y_ite, y_for, y_pass, y_cont, y_brk, y_nil, y_cons, y_aug, frzs2_c0, frzs1_c0, es2_c0, es1_c0, tup2_c0, tup1_c0, lst2_c0, lst1_c0, bin2_c0, bin1_c0, cmp2_c0, cmp1_c0, chain4_c0, chain3_c0, chain3_c1, chain2_c0, chain1_c0, and2_c0, and2_c1, and1_c0, or2_c0, or2_c1, or1_c0, tr2_c0, tr1_c0, not2_c0, not1_c0, ite1_c0, ite1_c1, ix2_c0, ix1_c0, sl3_c0, sl2_c0, sl1_c0, isi1_c0, call1_c0, callk1_c0, blt1_c0, mth2_c0, mth1_c0, lcT2_c0, lcT1_c0, lcT1_c1, lc1_c0, ts2_c0, seq1_c0, rng1_c0, enum1_c0, sret_c0, sset_c0, sunp2_c0, sunp_c0, sseti3_c0, sseti2_c0, sseti1_c0, sstar_c0, site_c0, site_c1, sfor_c0, saug2_c0, saug1_c0, saug_c0, neg1_ok, int1_ok, ts1_ok, enum2_ok, sexpr_ok, sseti4_ok, sthn_next, sthn_ret, sthn_brk, sthn_cont, frzs_nil, frzs_cons, norm_bl, norm_int, norm_str, norm_tup, norm_lst, norm_non, take_len0, take_set, take_app, need_t, val_int, val_str, val_bl, val_tup, val_lst, val_non, look_0, look_s, tru_bl, tru_int, both, one, ixl_0, ixl_1, ixl_2, ixl_3, ixt_0, ixt_1, ixt_2, ixt_3, add_i, sub_i, lt_i, le_i, gt_i, ge_i, len_l, len_t, abs_i, int_b, frz_int, frz_str, frz_bl, frz_tup, frz_lst, frz_non, set_same, len_set, set_s, set_0, bR_some, ret_ret, eq_str, ne_str, val_new, need_nil, newL_ok, norm_new, ret_next, p18, p8, List.map_cons, List.map_nil, List.replicate, List.cons_append, List.nil_append, Option.map_some, Bool.not_true, Bool.not_false, lcT1_c0, lcT2_c0, keep, f1, t6, nt, ft]
      · rw [Nat.zero_add, Nat.succ_mul]; exact f3.mono (by omega)
      · rw [ns_app, Tm.ns, Tm.ns]; omega
      · rw [hs_app, Tm.hs, Tm.hs]; omega
      · rw [oks_iff] at h10 ⊢
        intro u hu
        rcases List.mem_append.mp hu with z | z
        · exact h10 u z
        · rw [List.mem_singleton] at z; rw [z]; exact f8)
    obtain ⟨ys, S6, ey, ts, room', h1', h3, h4, h5, h6, h7, h8, h9, h10⟩ := key
    rw [rngD_len, Nat.zero_add] at h4 h7 h9
    rw [List.nil_append] at h1'
    rw [h1'] at ey
    have him : many.toNat * 10 ^ (d + 1) ≤ 4 * 10 ^ (d + 1) := Nat.mul_le_mul_right _ (by omega)
    have cp := comp_ok ey (by rw [List.length_map]; omega) (n := S5.length) h3.1
    have rg := fun r => need_rng (m := many) wm0 (by omega) (α := Walked) r
    have t5 : S5.take S4.length = S5 := tk_all l5
    have vc : val (S6 ++ [⟨.mu, .lst (ts.map Tm.d)⟩]) (.ref S5.length) = some (.lst (ts.map Tm.d)) := val_at (L := []) h3.1
    have bt : bltV .tuple [.ref S5.length] (S6 ++ [⟨.mu, .lst (ts.map Tm.d)⟩]) = .ok (.tup (ts.map Tm.d)) (S6 ++ [⟨.mu, .lst (ts.map Tm.d)⟩]) := by
      show one _ _ _ = _
      unfold one
      rw [vc]
    have t6 : ∀ {c : Cell}, (S6 ++ [c]).take S5.length = S6 := fun {c} => tk_app h3.1
    have t6' : S6.take S5.length = S6 := tk_all h3.1
    have t6'' : S6.take S.length = S6 := tk_all (by rw [h3.1, l5, L4])
    have need3 : ∀ {x y z : D} (r : R D), R.need (decide ([x, y, z].length ≤ line)) r = r := fun r => rfl
    refine ⟨.of word ts, S6, room', ?_, F5.trans h3, h4.mono (by omega), h5, h6, by rw [Tm.n]; omega, by rw [Tm.h]; omega, by rw [Tm.ok]; exact ⟨ww, h10⟩⟩
    subst hρ
    simp only [gTA, x_nil, x_cons, x_k, x_v, x_g, x_tup, x_lst, x_bin, x_neg, x_cmp, x_chain, x_and, x_or, x_not, x_ite, x_int1, x_ix, x_sl, x_isi, x_call, x_callk, x_blt, x_mth, x_lc, x_tsnil, x_ts1, x_seq, x_rng1, x_enum, y_expr, y_ret, y_retN, y_set, y_unp, y_seti, y_star, y_ite, y_for, y_pass, y_cont, y_brk, y_nil, y_cons, y_aug, frzs2_c0, frzs1_c0, es2_c0, es1_c0, tup2_c0, tup1_c0, lst2_c0, lst1_c0, bin2_c0, bin1_c0, cmp2_c0, cmp1_c0, chain4_c0, chain3_c0, chain3_c1, chain2_c0, chain1_c0, and2_c0, and2_c1, and1_c0, or2_c0, or2_c1, or1_c0, tr2_c0, tr1_c0, not2_c0, not1_c0, ite1_c0, ite1_c1, ix2_c0, ix1_c0, sl3_c0, sl2_c0, sl1_c0, isi1_c0, call1_c0, callk1_c0, blt1_c0, mth2_c0, mth1_c0, lcT2_c0, lcT1_c0, lcT1_c1, lc1_c0, ts2_c0, seq1_c0, rng1_c0, enum1_c0, sret_c0, sset_c0, sunp2_c0, sunp_c0, sseti3_c0, sseti2_c0, sseti1_c0, sstar_c0, site_c0, site_c1, sfor_c0, saug2_c0, saug1_c0, saug_c0, neg1_ok, int1_ok, ts1_ok, enum2_ok, sexpr_ok, sseti4_ok, sthn_next, sthn_ret, sthn_brk, sthn_cont, frzs_nil, frzs_cons, norm_bl, norm_int, norm_str, norm_tup, norm_lst, norm_non, take_len0, take_set, take_app, need_t, val_int, val_str, val_bl, val_tup, val_lst, val_non, look_0, look_s, tru_bl, tru_int, both, one, ixl_0, ixl_1, ixl_2, ixl_3, ixt_0, ixt_1, ixt_2, ixt_3, add_i, sub_i, lt_i, le_i, gt_i, ge_i, len_l, len_t, abs_i, int_b, frz_int, frz_str, frz_bl, frz_tup, frz_lst, frz_non, set_same, len_set, set_s, set_0, bR_some, ret_ret, eq_str, ne_str, val_new, need_nil, newL_ok, norm_new, ret_next, p18, p8, List.map_cons, List.map_nil, List.replicate, List.cons_append, List.nil_append, Option.map_some, Bool.not_true, Bool.not_false, vq, setV_at q4 atN_0 frz_int, hS5, rg, t5, cp, bt, t6, t6', t6'', need3]
    rw [Tm.d, ds_map]
  · have hc : tr1 S4.length (evE (callF T.prog W (k + d + 1)) gCA ρ S4) = .ok (.bl false) S4 := by
      subst hρ
      by_cases g1 : 1 < r1
      · by_cases g2 : many ≤ room
        · have g4 : ¬ 1 < deep := fun z => A ⟨g1, g2, .inl z⟩
          have g5 : ¬ many = 0 := fun z => A ⟨g1, g2, .inr z⟩
          have c5 : cmpV .eq (.int many) (.int 0) = some false := by show some (many == 0) = _; simp [g5]
          simp only [gCA, x_nil, x_cons, x_k, x_v, x_g, x_tup, x_lst, x_bin, x_neg, x_cmp, x_chain, x_and, x_or, x_not, x_ite, x_int1, x_ix, x_sl, x_isi, x_call, x_callk, x_blt, x_mth, x_lc, x_tsnil, x_ts1, x_seq, x_rng1, x_enum, y_expr, y_ret, y_retN, y_set, y_unp, y_seti, y_star, y_ite, y_for, y_pass, y_cont, y_brk, y_nil, y_cons, y_aug, frzs2_c0, frzs1_c0, es2_c0, es1_c0, tup2_c0, tup1_c0, lst2_c0, lst1_c0, bin2_c0, bin1_c0, cmp2_c0, cmp1_c0, chain4_c0, chain3_c0, chain3_c1, chain2_c0, chain1_c0, and2_c0, and2_c1, and1_c0, or2_c0, or2_c1, or1_c0, tr2_c0, tr1_c0, not2_c0, not1_c0, ite1_c0, ite1_c1, ix2_c0, ix1_c0, sl3_c0, sl2_c0, sl1_c0, isi1_c0, call1_c0, callk1_c0, blt1_c0, mth2_c0, mth1_c0, lcT2_c0, lcT1_c0, lcT1_c1, lc1_c0, ts2_c0, seq1_c0, rng1_c0, enum1_c0, sret_c0, sset_c0, sunp2_c0, sunp_c0, sseti3_c0, sseti2_c0, sseti1_c0, sstar_c0, site_c0, site_c1, sfor_c0, saug2_c0, saug1_c0, saug_c0, neg1_ok, int1_ok, ts1_ok, enum2_ok, sexpr_ok, sseti4_ok, sthn_next, sthn_ret, sthn_brk, sthn_cont, frzs_nil, frzs_cons, norm_bl, norm_int, norm_str, norm_tup, norm_lst, norm_non, take_len0, take_set, take_app, need_t, val_int, val_str, val_bl, val_tup, val_lst, val_non, look_0, look_s, tru_bl, tru_int, both, one, ixl_0, ixl_1, ixl_2, ixl_3, ixt_0, ixt_1, ixt_2, ixt_3, add_i, sub_i, lt_i, le_i, gt_i, ge_i, len_l, len_t, abs_i, int_b, frz_int, frz_str, frz_bl, frz_tup, frz_lst, frz_non, set_same, len_set, set_s, set_0, bR_some, ret_ret, eq_str, ne_str, val_new, need_nil, newL_ok, norm_new, ret_next, p18, p8, List.map_cons, List.map_nil, List.replicate, List.cons_append, List.nil_append, Option.map_some, Bool.not_true, Bool.not_false, vq, decide_eq_true g1, decide_eq_true g2, decide_eq_false g4, c5, and2_c0, and2_c1, or2_c0, or2_c1]
        · simp only [gCA, x_nil, x_cons, x_k, x_v, x_g, x_tup, x_lst, x_bin, x_neg, x_cmp, x_chain, x_and, x_or, x_not, x_ite, x_int1, x_ix, x_sl, x_isi, x_call, x_callk, x_blt, x_mth, x_lc, x_tsnil, x_ts1, x_seq, x_rng1, x_enum, y_expr, y_ret, y_retN, y_set, y_unp, y_seti, y_star, y_ite, y_for, y_pass, y_cont, y_brk, y_nil, y_cons, y_aug, frzs2_c0, frzs1_c0, es2_c0, es1_c0, tup2_c0, tup1_c0, lst2_c0, lst1_c0, bin2_c0, bin1_c0, cmp2_c0, cmp1_c0, chain4_c0, chain3_c0, chain3_c1, chain2_c0, chain1_c0, and2_c0, and2_c1, and1_c0, or2_c0, or2_c1, or1_c0, tr2_c0, tr1_c0, not2_c0, not1_c0, ite1_c0, ite1_c1, ix2_c0, ix1_c0, sl3_c0, sl2_c0, sl1_c0, isi1_c0, call1_c0, callk1_c0, blt1_c0, mth2_c0, mth1_c0, lcT2_c0, lcT1_c0, lcT1_c1, lc1_c0, ts2_c0, seq1_c0, rng1_c0, enum1_c0, sret_c0, sset_c0, sunp2_c0, sunp_c0, sseti3_c0, sseti2_c0, sseti1_c0, sstar_c0, site_c0, site_c1, sfor_c0, saug2_c0, saug1_c0, saug_c0, neg1_ok, int1_ok, ts1_ok, enum2_ok, sexpr_ok, sseti4_ok, sthn_next, sthn_ret, sthn_brk, sthn_cont, frzs_nil, frzs_cons, norm_bl, norm_int, norm_str, norm_tup, norm_lst, norm_non, take_len0, take_set, take_app, need_t, val_int, val_str, val_bl, val_tup, val_lst, val_non, look_0, look_s, tru_bl, tru_int, both, one, ixl_0, ixl_1, ixl_2, ixl_3, ixt_0, ixt_1, ixt_2, ixt_3, add_i, sub_i, lt_i, le_i, gt_i, ge_i, len_l, len_t, abs_i, int_b, frz_int, frz_str, frz_bl, frz_tup, frz_lst, frz_non, set_same, len_set, set_s, set_0, bR_some, ret_ret, eq_str, ne_str, val_new, need_nil, newL_ok, norm_new, ret_next, p18, p8, List.map_cons, List.map_nil, List.replicate, List.cons_append, List.nil_append, Option.map_some, Bool.not_true, Bool.not_false, vq, decide_eq_true g1, decide_eq_false g2, and2_c0, and2_c1]
      · simp only [gCA, x_nil, x_cons, x_k, x_v, x_g, x_tup, x_lst, x_bin, x_neg, x_cmp, x_chain, x_and, x_or, x_not, x_ite, x_int1, x_ix, x_sl, x_isi, x_call, x_callk, x_blt, x_mth, x_lc, x_tsnil, x_ts1, x_seq, x_rng1, x_enum, y_expr, y_ret, y_retN, y_set, y_unp, y_seti, y_star, y_ite, y_for, y_pass, y_cont, y_brk, y_nil, y_cons, y_aug, frzs2_c0, frzs1_c0, es2_c0, es1_c0, tup2_c0, tup1_c0, lst2_c0, lst1_c0, bin2_c0, bin1_c0, cmp2_c0, cmp1_c0, chain4_c0, chain3_c0, chain3_c1, chain2_c0, chain1_c0, and2_c0, and2_c1, and1_c0, or2_c0, or2_c1, or1_c0, tr2_c0, tr1_c0, not2_c0, not1_c0, ite1_c0, ite1_c1, ix2_c0, ix1_c0, sl3_c0, sl2_c0, sl1_c0, isi1_c0, call1_c0, callk1_c0, blt1_c0, mth2_c0, mth1_c0, lcT2_c0, lcT1_c0, lcT1_c1, lc1_c0, ts2_c0, seq1_c0, rng1_c0, enum1_c0, sret_c0, sset_c0, sunp2_c0, sunp_c0, sseti3_c0, sseti2_c0, sseti1_c0, sstar_c0, site_c0, site_c1, sfor_c0, saug2_c0, saug1_c0, saug_c0, neg1_ok, int1_ok, ts1_ok, enum2_ok, sexpr_ok, sseti4_ok, sthn_next, sthn_ret, sthn_brk, sthn_cont, frzs_nil, frzs_cons, norm_bl, norm_int, norm_str, norm_tup, norm_lst, norm_non, take_len0, take_set, take_app, need_t, val_int, val_str, val_bl, val_tup, val_lst, val_non, look_0, look_s, tru_bl, tru_int, both, one, ixl_0, ixl_1, ixl_2, ixl_3, ixt_0, ixt_1, ixt_2, ixt_3, add_i, sub_i, lt_i, le_i, gt_i, ge_i, len_l, len_t, abs_i, int_b, frz_int, frz_str, frz_bl, frz_tup, frz_lst, frz_non, set_same, len_set, set_s, set_0, bR_some, ret_ret, eq_str, ne_str, val_new, need_nil, newL_ok, norm_new, ret_next, p18, p8, List.map_cons, List.map_nil, List.replicate, List.cons_append, List.nil_append, Option.map_some, Bool.not_true, Bool.not_false, vq, decide_eq_false g1, and2_c0, and2_c1]
    rw [gA, y_cons, y_ite, hc, site_c1, y_nil, sthn_next]
    by_cases B : r1 = 1 ∧ 1 < deep ∧ 0 < room
    · obtain ⟨g1, g2, g3⟩ := B
      have hc : tr1 S4.length (evE (callF T.prog W (k + d + 1)) gCB ρ S4) = .ok (.bl true) S4 := by
        subst hρ
        have c1 : cmpV .eq (.int r1) (.int 1) = some true := by show some (r1 == 1) = _; simp [g1]
        simp only [gCB, x_nil, x_cons, x_k, x_v, x_g, x_tup, x_lst, x_bin, x_neg, x_cmp, x_chain, x_and, x_or, x_not, x_ite, x_int1, x_ix, x_sl, x_isi, x_call, x_callk, x_blt, x_mth, x_lc, x_tsnil, x_ts1, x_seq, x_rng1, x_enum, y_expr, y_ret, y_retN, y_set, y_unp, y_seti, y_star, y_ite, y_for, y_pass, y_cont, y_brk, y_nil, y_cons, y_aug, frzs2_c0, frzs1_c0, es2_c0, es1_c0, tup2_c0, tup1_c0, lst2_c0, lst1_c0, bin2_c0, bin1_c0, cmp2_c0, cmp1_c0, chain4_c0, chain3_c0, chain3_c1, chain2_c0, chain1_c0, and2_c0, and2_c1, and1_c0, or2_c0, or2_c1, or1_c0, tr2_c0, tr1_c0, not2_c0, not1_c0, ite1_c0, ite1_c1, ix2_c0, ix1_c0, sl3_c0, sl2_c0, sl1_c0, isi1_c0, call1_c0, callk1_c0, blt1_c0, mth2_c0, mth1_c0, lcT2_c0, lcT1_c0, lcT1_c1, lc1_c0, ts2_c0, seq1_c0, rng1_c0, enum1_c0, sret_c0, sset_c0, sunp2_c0, sunp_c0, sseti3_c0, sseti2_c0, sseti1_c0, sstar_c0, site_c0, site_c1, sfor_c0, saug2_c0, saug1_c0, saug_c0, neg1_ok, int1_ok, ts1_ok, enum2_ok, sexpr_ok, sseti4_ok, sthn_next, sthn_ret, sthn_brk, sthn_cont, frzs_nil, frzs_cons, norm_bl, norm_int, norm_str, norm_tup, norm_lst, norm_non, take_len0, take_set, take_app, need_t, val_int, val_str, val_bl, val_tup, val_lst, val_non, look_0, look_s, tru_bl, tru_int, both, one, ixl_0, ixl_1, ixl_2, ixl_3, ixt_0, ixt_1, ixt_2, ixt_3, add_i, sub_i, lt_i, le_i, gt_i, ge_i, len_l, len_t, abs_i, int_b, frz_int, frz_str, frz_bl, frz_tup, frz_lst, frz_non, set_same, len_set, set_s, set_0, bR_some, ret_ret, eq_str, ne_str, val_new, need_nil, newL_ok, norm_new, ret_next, p18, p8, List.map_cons, List.map_nil, List.replicate, List.cons_append, List.nil_append, Option.map_some, Bool.not_true, Bool.not_false, vq, c1, decide_eq_true g2, decide_eq_true g3, and2_c0, and2_c1]
      rw [gB, y_cons, y_ite, hc, site_c0]
      subst hρ
      have q5 : (S4.set q ⟨.mu, .lst [.int (room - 1)]⟩)[q]? = some ⟨.mu, .lst [.int (room - 1)]⟩ := List.getElem?_set_self lq
      have P5 : Pen (S4.set q ⟨.mu, .lst [.int (room - 1)]⟩) p (a + 4) := P4.of (List.getElem?_set_ne hqp)
      obtain ⟨t, S6, room', f1, f2, f3, f4, f5, f6, f7, f8⟩ := ih (k := k) (W := W) (deep := deep - 1) P5 q5 hqp (by omega) (by omega) (by omega) (by omega) K
      have t6 : S6.take (S4.set q ⟨.mu, .lst [.int (room - 1)]⟩).length = S6 := tk_all f2.1
      have t6' : S6.take S.length = S6 := tk_all (by rw [f2.1, List.length_set]; exact L4)
      have nt := fun {S0 : Cells} (n : Nat) => show norm n (.ok t.d S0) = .ok t.d (S0.take n) by cases t <;> rw [Tm.d] <;> rfl
      have ft := fun S0 : Cells => show frz t.d S0 = .ok t.d S0 by cases t <;> rw [Tm.d] <;> rfl
      have need4 : ∀ {x y z w : D} (r : R D), R.need (decide ([x, y, z, w].length ≤ line)) r = r := fun r => rfl
      refine ⟨.bind binder name t, S6, room', ?_, (F4.trans .set).trans f2, f3.mono (by omega), f4, f5, by rw [Tm.n]; omega, by rw [Tm.h]; omega, by rw [Tm.ok]; exact ⟨wb, wn, f8⟩⟩
      have t6b : S6.take S4.length = S6 := tk_all (by rw [f2.1, List.length_set])
      simp only [gTB, x_nil, x_cons, x_k, x_v, x_g, x_tup, x_lst, x_bin, x_neg, x_cmp, x_chain, x_and, x_or, x_not, x_ite, x_int1, x_ix, x_sl, x_isi, x_call, x_callk, x_blt, x_mth, x_lc, x_tsnil, x_ts1, x_seq, x_rng1, x_enum, y_expr, y_ret, y_retN, y_set, y_unp, y_seti, y_star, y_ite, y_for, y_pass, y_cont, y_brk, y_nil, y_cons, y_aug, frzs2_c0, frzs1_c0, es2_c0, es1_c0, tup2_c0, tup1_c0, lst2_c0, lst1_c0, bin2_c0, bin1_c0, cmp2_c0, cmp1_c0, chain4_c0, chain3_c0, chain3_c1, chain2_c0, chain1_c0, and2_c0, and2_c1, and1_c0, or2_c0, or2_c1, or1_c0, tr2_c0, tr1_c0, not2_c0, not1_c0, ite1_c0, ite1_c1, ix2_c0, ix1_c0, sl3_c0, sl2_c0, sl1_c0, isi1_c0, call1_c0, callk1_c0, blt1_c0, mth2_c0, mth1_c0, lcT2_c0, lcT1_c0, lcT1_c1, lc1_c0, ts2_c0, seq1_c0, rng1_c0, enum1_c0, sret_c0, sset_c0, sunp2_c0, sunp_c0, sseti3_c0, sseti2_c0, sseti1_c0, sstar_c0, site_c0, site_c1, sfor_c0, saug2_c0, saug1_c0, saug_c0, neg1_ok, int1_ok, ts1_ok, enum2_ok, sexpr_ok, sseti4_ok, sthn_next, sthn_ret, sthn_brk, sthn_cont, frzs_nil, frzs_cons, norm_bl, norm_int, norm_str, norm_tup, norm_lst, norm_non, take_len0, take_set, take_app, need_t, val_int, val_str, val_bl, val_tup, val_lst, val_non, look_0, look_s, tru_bl, tru_int, both, one, ixl_0, ixl_1, ixl_2, ixl_3, ixt_0, ixt_1, ixt_2, ixt_3, add_i, sub_i, lt_i, le_i, gt_i, ge_i, len_l, len_t, abs_i, int_b, frz_int, frz_str, frz_bl, frz_tup, frz_lst, frz_non, set_same, len_set, set_s, set_0, bR_some, ret_ret, eq_str, ne_str, val_new, need_nil, newL_ok, norm_new, ret_next, p18, p8, List.map_cons, List.map_nil, List.replicate, List.cons_append, List.nil_append, Option.map_some, Bool.not_true, Bool.not_false, vq, setV_at q4 atN_0 frz_int, f1, t6, t6', t6b, nt, ft, need4]
      rw [Tm.d]
    · have hc : tr1 S4.length (evE (callF T.prog W (k + d + 1)) gCB ρ S4) = .ok (.bl false) S4 := by
        subst hρ
        by_cases g1 : r1 = 1
        · have c1 : cmpV .eq (.int r1) (.int 1) = some true := by show some (r1 == 1) = _; simp [g1]
          by_cases g2 : 1 < deep
          · have g3 : ¬ 0 < room := fun z => B ⟨g1, g2, z⟩
            simp only [gCB, x_nil, x_cons, x_k, x_v, x_g, x_tup, x_lst, x_bin, x_neg, x_cmp, x_chain, x_and, x_or, x_not, x_ite, x_int1, x_ix, x_sl, x_isi, x_call, x_callk, x_blt, x_mth, x_lc, x_tsnil, x_ts1, x_seq, x_rng1, x_enum, y_expr, y_ret, y_retN, y_set, y_unp, y_seti, y_star, y_ite, y_for, y_pass, y_cont, y_brk, y_nil, y_cons, y_aug, frzs2_c0, frzs1_c0, es2_c0, es1_c0, tup2_c0, tup1_c0, lst2_c0, lst1_c0, bin2_c0, bin1_c0, cmp2_c0, cmp1_c0, chain4_c0, chain3_c0, chain3_c1, chain2_c0, chain1_c0, and2_c0, and2_c1, and1_c0, or2_c0, or2_c1, or1_c0, tr2_c0, tr1_c0, not2_c0, not1_c0, ite1_c0, ite1_c1, ix2_c0, ix1_c0, sl3_c0, sl2_c0, sl1_c0, isi1_c0, call1_c0, callk1_c0, blt1_c0, mth2_c0, mth1_c0, lcT2_c0, lcT1_c0, lcT1_c1, lc1_c0, ts2_c0, seq1_c0, rng1_c0, enum1_c0, sret_c0, sset_c0, sunp2_c0, sunp_c0, sseti3_c0, sseti2_c0, sseti1_c0, sstar_c0, site_c0, site_c1, sfor_c0, saug2_c0, saug1_c0, saug_c0, neg1_ok, int1_ok, ts1_ok, enum2_ok, sexpr_ok, sseti4_ok, sthn_next, sthn_ret, sthn_brk, sthn_cont, frzs_nil, frzs_cons, norm_bl, norm_int, norm_str, norm_tup, norm_lst, norm_non, take_len0, take_set, take_app, need_t, val_int, val_str, val_bl, val_tup, val_lst, val_non, look_0, look_s, tru_bl, tru_int, both, one, ixl_0, ixl_1, ixl_2, ixl_3, ixt_0, ixt_1, ixt_2, ixt_3, add_i, sub_i, lt_i, le_i, gt_i, ge_i, len_l, len_t, abs_i, int_b, frz_int, frz_str, frz_bl, frz_tup, frz_lst, frz_non, set_same, len_set, set_s, set_0, bR_some, ret_ret, eq_str, ne_str, val_new, need_nil, newL_ok, norm_new, ret_next, p18, p8, List.map_cons, List.map_nil, List.replicate, List.cons_append, List.nil_append, Option.map_some, Bool.not_true, Bool.not_false, vq, c1, decide_eq_true g2, decide_eq_false g3, and2_c0, and2_c1]
          · simp only [gCB, x_nil, x_cons, x_k, x_v, x_g, x_tup, x_lst, x_bin, x_neg, x_cmp, x_chain, x_and, x_or, x_not, x_ite, x_int1, x_ix, x_sl, x_isi, x_call, x_callk, x_blt, x_mth, x_lc, x_tsnil, x_ts1, x_seq, x_rng1, x_enum, y_expr, y_ret, y_retN, y_set, y_unp, y_seti, y_star, y_ite, y_for, y_pass, y_cont, y_brk, y_nil, y_cons, y_aug, frzs2_c0, frzs1_c0, es2_c0, es1_c0, tup2_c0, tup1_c0, lst2_c0, lst1_c0, bin2_c0, bin1_c0, cmp2_c0, cmp1_c0, chain4_c0, chain3_c0, chain3_c1, chain2_c0, chain1_c0, and2_c0, and2_c1, and1_c0, or2_c0, or2_c1, or1_c0, tr2_c0, tr1_c0, not2_c0, not1_c0, ite1_c0, ite1_c1, ix2_c0, ix1_c0, sl3_c0, sl2_c0, sl1_c0, isi1_c0, call1_c0, callk1_c0, blt1_c0, mth2_c0, mth1_c0, lcT2_c0, lcT1_c0, lcT1_c1, lc1_c0, ts2_c0, seq1_c0, rng1_c0, enum1_c0, sret_c0, sset_c0, sunp2_c0, sunp_c0, sseti3_c0, sseti2_c0, sseti1_c0, sstar_c0, site_c0, site_c1, sfor_c0, saug2_c0, saug1_c0, saug_c0, neg1_ok, int1_ok, ts1_ok, enum2_ok, sexpr_ok, sseti4_ok, sthn_next, sthn_ret, sthn_brk, sthn_cont, frzs_nil, frzs_cons, norm_bl, norm_int, norm_str, norm_tup, norm_lst, norm_non, take_len0, take_set, take_app, need_t, val_int, val_str, val_bl, val_tup, val_lst, val_non, look_0, look_s, tru_bl, tru_int, both, one, ixl_0, ixl_1, ixl_2, ixl_3, ixt_0, ixt_1, ixt_2, ixt_3, add_i, sub_i, lt_i, le_i, gt_i, ge_i, len_l, len_t, abs_i, int_b, frz_int, frz_str, frz_bl, frz_tup, frz_lst, frz_non, set_same, len_set, set_s, set_0, bR_some, ret_ret, eq_str, ne_str, val_new, need_nil, newL_ok, norm_new, ret_next, p18, p8, List.map_cons, List.map_nil, List.replicate, List.cons_append, List.nil_append, Option.map_some, Bool.not_true, Bool.not_false, vq, c1, decide_eq_false g2, and2_c0, and2_c1]
        · have c1 : cmpV .eq (.int r1) (.int 1) = some false := by show some (r1 == 1) = _; simp [g1]
          simp only [gCB, x_nil, x_cons, x_k, x_v, x_g, x_tup, x_lst, x_bin, x_neg, x_cmp, x_chain, x_and, x_or, x_not, x_ite, x_int1, x_ix, x_sl, x_isi, x_call, x_callk, x_blt, x_mth, x_lc, x_tsnil, x_ts1, x_seq, x_rng1, x_enum, y_expr, y_ret, y_retN, y_set, y_unp, y_seti, y_star, y_ite, y_for, y_pass, y_cont, y_brk, y_nil, y_cons, y_aug, frzs2_c0, frzs1_c0, es2_c0, es1_c0, tup2_c0, tup1_c0, lst2_c0, lst1_c0, bin2_c0, bin1_c0, cmp2_c0, cmp1_c0, chain4_c0, chain3_c0, chain3_c1, chain2_c0, chain1_c0, and2_c0, and2_c1, and1_c0, or2_c0, or2_c1, or1_c0, tr2_c0, tr1_c0, not2_c0, not1_c0, ite1_c0, ite1_c1, ix2_c0, ix1_c0, sl3_c0, sl2_c0, sl1_c0, isi1_c0, call1_c0, callk1_c0, blt1_c0, mth2_c0, mth1_c0, lcT2_c0, lcT1_c0, lcT1_c1, lc1_c0, ts2_c0, seq1_c0, rng1_c0, enum1_c0, sret_c0, sset_c0, sunp2_c0, sunp_c0, sseti3_c0, sseti2_c0, sseti1_c0, sstar_c0, site_c0, site_c1, sfor_c0, saug2_c0, saug1_c0, saug_c0, neg1_ok, int1_ok, ts1_ok, enum2_ok, sexpr_ok, sseti4_ok, sthn_next, sthn_ret, sthn_brk, sthn_cont, frzs_nil, frzs_cons, norm_bl, norm_int, norm_str, norm_tup, norm_lst, norm_non, take_len0, take_set, take_app, need_t, val_int, val_str, val_bl, val_tup, val_lst, val_non, look_0, look_s, tru_bl, tru_int, both, one, ixl_0, ixl_1, ixl_2, ixl_3, ixt_0, ixt_1, ixt_2, ixt_3, add_i, sub_i, lt_i, le_i, gt_i, ge_i, len_l, len_t, abs_i, int_b, frz_int, frz_str, frz_bl, frz_tup, frz_lst, frz_non, set_same, len_set, set_s, set_0, bR_some, ret_ret, eq_str, ne_str, val_new, need_nil, newL_ok, norm_new, ret_next, p18, p8, List.map_cons, List.map_nil, List.replicate, List.cons_append, List.nil_append, Option.map_some, Bool.not_true, Bool.not_false, vq, c1, and2_c0, and2_c1]
      rw [gB, y_cons, y_ite, hc, site_c1, y_nil, sthn_next]
      subst hρ
      have need2 : ∀ {x y : D} (r : R D), R.need (decide ([x, y].length ≤ line)) r = r := fun r => rfl
      refine ⟨.name name, S4, room, ?_, F4, P4.mono (by omega), q4, hr, by rw [Tm.n]; omega, by rw [Tm.h]; omega, by rw [Tm.ok]; exact wn⟩
      simp only [gC, x_nil, x_cons, x_k, x_v, x_g, x_tup, x_lst, x_bin, x_neg, x_cmp, x_chain, x_and, x_or, x_not, x_ite, x_int1, x_ix, x_sl, x_isi, x_call, x_callk, x_blt, x_mth, x_lc, x_tsnil, x_ts1, x_seq, x_rng1, x_enum, y_expr, y_ret, y_retN, y_set, y_unp, y_seti, y_star, y_ite, y_for, y_pass, y_cont, y_brk, y_nil, y_cons, y_aug, frzs2_c0, frzs1_c0, es2_c0, es1_c0, tup2_c0, tup1_c0, lst2_c0, lst1_c0, bin2_c0, bin1_c0, cmp2_c0, cmp1_c0, chain4_c0, chain3_c0, chain3_c1, chain2_c0, chain1_c0, and2_c0, and2_c1, and1_c0, or2_c0, or2_c1, or1_c0, tr2_c0, tr1_c0, not2_c0, not1_c0, ite1_c0, ite1_c1, ix2_c0, ix1_c0, sl3_c0, sl2_c0, sl1_c0, isi1_c0, call1_c0, callk1_c0, blt1_c0, mth2_c0, mth1_c0, lcT2_c0, lcT1_c0, lcT1_c1, lc1_c0, ts2_c0, seq1_c0, rng1_c0, enum1_c0, sret_c0, sset_c0, sunp2_c0, sunp_c0, sseti3_c0, sseti2_c0, sseti1_c0, sstar_c0, site_c0, site_c1, sfor_c0, saug2_c0, saug1_c0, saug_c0, neg1_ok, int1_ok, ts1_ok, enum2_ok, sexpr_ok, sseti4_ok, sthn_next, sthn_ret, sthn_brk, sthn_cont, frzs_nil, frzs_cons, norm_bl, norm_int, norm_str, norm_tup, norm_lst, norm_non, take_len0, take_set, take_app, need_t, val_int, val_str, val_bl, val_tup, val_lst, val_non, look_0, look_s, tru_bl, tru_int, both, one, ixl_0, ixl_1, ixl_2, ixl_3, ixt_0, ixt_1, ixt_2, ixt_3, add_i, sub_i, lt_i, le_i, gt_i, ge_i, len_l, len_t, abs_i, int_b, frz_int, frz_str, frz_bl, frz_tup, frz_lst, frz_non, set_same, len_set, set_s, set_0, bR_some, ret_ret, eq_str, ne_str, val_new, need_nil, newL_ok, norm_new, ret_next, p18, p8, List.map_cons, List.map_nil, List.replicate, List.cons_append, List.nil_append, Option.map_some, Bool.not_true, Bool.not_false, need2, tS4]
      rw [Tm.d]

theorem grown_all : ∀ d : Nat, grownK d
  | 0 => grown_0
  | d + 1 => grown_s (grown_all d)
theorem term {k W : Nat} {S : Cells} {p a : Nat} {tops : List (Str × Int)} {bs ns : List Str} (hP : Pen S p a) (ha : a + 100000000000000 < big) (K : KitOk tops bs ns) :
    ∃ (t : Tm) (S' : Cells), Upd p S S' ∧ callF T.prog W (k + 14) "_law_term" [.ref p, kitD tops bs ns] S = .ok t.d S' ∧ Pen S' p (a + 100000000000000) ∧ t.n ≤ 60 ∧ t.h ≤ 12 ∧ t.ok 11 := by
  have e := call_def (T := T) ok (d := d__law_term) (by unfold T; simp) (k := k + 13) (W := W) (ds := [.ref p, kitD tops bs ns]) (S := S) rfl
  rw [show d__law_term.x = "_law_term" from rfl] at e
  rw [e]
  obtain ⟨r1, S1, u1, e1, p1, p1', P1, l1⟩ := tk0 (k := k + 12) (W := W) (upto := 60) hP (by unfold big at *; omega) (by decide) (by decide)
  generalize hs1 : [D.int 4, D.int 12, D.int 59, D.int r1] = s1
  generalize hc1 : (⟨.mu, .lst s1⟩ : Cell) = c1
  obtain ⟨r2, S2, u2, e2, p2, p2', P2, l2⟩ := tk (k := k + 12) (W := W) (L := [c1]) (upto := 4) P1 (by unfold big at *; omega) (by decide) (by decide)
  have hv : ∃ v : Int, s1[r2.toNat]? = some (.int v) ∧ 0 ≤ v ∧ v ≤ 59 := by
    have : r2 = 0 ∨ r2 = 1 ∨ r2 = 2 ∨ r2 = 3 := by omega
    rw [← hs1]
    rcases this with rfl | rfl | rfl | rfl <;> exact ⟨_, rfl, by omega, by omega⟩
  obtain ⟨size, ev, z1, z2⟩ := hv
  have ix1' := fun S => ix_at (S := S) p2 ev
  have fr1 := fun S => show frzs s1 S = .ok s1 S by rw [← hs1]; rfl
  have ne1 : ∀ r : R D, R.need (decide (s1.length ≤ line)) r = r := fun r => by rw [← hs1]; rfl
  have nm1 : norm S.length (R.ok (.ref S1.length) (S1 ++ [c1])) = .ok (.ref S.length) (S1 ++ [c1]) := by rw [← l1]; exact norm_new
  have vc1 : val (S2 ++ [c1]) (.ref S.length) = some (.lst s1) := by rw [← hc1]; exact val_at (L := []) (by omega)
  have t1 : S1.take S.length = S1 := tk_all l1
  have t2 : (S2 ++ [c1]).take (S1 ++ [c1]).length = S2 ++ [c1] := tk_all (by simp [l2])
  have t2' : (S2 ++ [c1]).take S.length = S2 := tk_app (by omega)
  -- how deep
  obtain ⟨r3, S3, u3, e3, p3, p3', P3, l3⟩ := tk0 (k := k + 12) (W := W) (upto := 12) P2 (by unfold big at *; omega) (by decide) (by decide)
  generalize hs2 : [D.int 12, D.int (1 + r3), D.int 4] = s2
  generalize hc2 : (⟨.mu, .lst s2⟩ : Cell) = c2
  obtain ⟨r4, S4, u4, e4, p4, p4', P4, l4⟩ := tk (k := k + 12) (W := W) (L := [c2]) (upto := 3) P3 (by unfold big at *; omega) (by decide) (by decide)
  have hv2 : ∃ v : Int, s2[r4.toNat]? = some (.int v) ∧ 1 ≤ v ∧ v ≤ 12 := by
    have : r4 = 0 ∨ r4 = 1 ∨ r4 = 2 := by omega
    rw [← hs2]
    rcases this with rfl | rfl | rfl <;> exact ⟨_, rfl, by omega, by omega⟩
  obtain ⟨deep, ev2, y1, y2⟩ := hv2
  have ix2' := fun S => ix_at (S := S) p4 ev2
  have fr2 := fun S => show frzs s2 S = .ok s2 S by rw [← hs2]; rfl
  have ne2 : ∀ r : R D, R.need (decide (s2.length ≤ line)) r = r := fun r => by rw [← hs2]; rfl
  have nm2 : norm S2.length (R.ok (.ref S3.length) (S3 ++ [c2])) = .ok (.ref S2.length) (S3 ++ [c2]) := by rw [← l3]; exact norm_new
  have vc2 : val (S4 ++ [c2]) (.ref S2.length) = some (.lst s2) := by rw [← hc2]; exact val_at (L := []) (by omega)
  have t3 : S3.take S2.length = S3 := tk_all l3
  have t4 : (S4 ++ [c2]).take (S3 ++ [c2]).length = S4 ++ [c2] := tk_all (by simp [l4])
  have t4' : (S4 ++ [c2]).take S2.length = S4 := tk_app (by omega)
  have ne3 : ∀ r : R D, R.need (decide ([D.int size].length ≤ line)) r = r := fun r => rfl
  have U := ((u1.trans u2).trans u3).trans u4
  have L4 := U.len
  have hp := P4.lt
  obtain ⟨t, S6, room', f1, f2, f3, f4, f5, f6, f7, f8⟩ := grown_all 12 (k := k) (W := W) (S := S4 ++ [⟨.mu, .lst [.int size]⟩]) (p := p) (q := S4.length) (room := size) (deep := deep) P4.app (by simp) (by omega) z1 (by unfold big at *; omega) y1 y2 K
  have nt := fun {S0 : Cells} (n : Nat) => show norm n (.ok t.d S0) = .ok t.d (S0.take n) by cases t <;> rw [Tm.d] <;> rfl
  have l6 : S6.length = S4.length + 1 := by rw [f2.1]; simp
  have u6 : Upd p S4 (S6.take S.length) := upd_of (by rw [List.length_take]; omega) hp fun i hi => by
    by_cases hl : i < S.length
    · rw [List.getElem?_take, if_pos hl, f2.2 i hi (by omega), List.getElem?_append_left (by omega)]
    · rw [List.getElem?_take, if_neg hl, List.getElem?_eq_none (by omega)]
  refine ⟨t, S6.take S.length, U.trans u6, ?_, ?_, by omega, by omega, f8⟩
  · have q1 : (S6.take S2.length).take S.length = S6.take S.length := by rw [List.take_take]; congr 1; omega
    have q2 : S2.length = S.length := by omega
    simp only [d__law_term, b__law_term, x_nil, x_cons, x_k, x_v, x_g, x_tup, x_lst, x_bin, x_neg, x_cmp, x_chain, x_and, x_or, x_not, x_ite, x_int1, x_ix, x_sl, x_isi, x_call, x_callk, x_blt, x_mth, x_lc, x_tsnil, x_ts1, x_seq, x_rng1, x_enum, y_expr, y_ret, y_retN, y_set, y_unp, y_seti, y_star, y_ite, y_for, y_pass, y_cont, y_brk, y_nil, y_cons, y_aug, frzs2_c0, frzs1_c0, es2_c0, es1_c0, tup2_c0, tup1_c0, lst2_c0, lst1_c0, bin2_c0, bin1_c0, cmp2_c0, cmp1_c0, chain4_c0, chain3_c0, chain3_c1, chain2_c0, chain1_c0, and2_c0, and2_c1, and1_c0, or2_c0, or2_c1, or1_c0, tr2_c0, tr1_c0, not2_c0, not1_c0, ite1_c0, ite1_c1, ix2_c0, ix1_c0, sl3_c0, sl2_c0, sl1_c0, isi1_c0, call1_c0, callk1_c0, blt1_c0, mth2_c0, mth1_c0, lcT2_c0, lcT1_c0, lcT1_c1, lc1_c0, ts2_c0, seq1_c0, rng1_c0, enum1_c0, sret_c0, sset_c0, sunp2_c0, sunp_c0, sseti3_c0, sseti2_c0, sseti1_c0, sstar_c0, site_c0, site_c1, sfor_c0, saug2_c0, saug1_c0, saug_c0, neg1_ok, int1_ok, ts1_ok, enum2_ok, sexpr_ok, sseti4_ok, sthn_next, sthn_ret, sthn_brk, sthn_cont, frzs_nil, frzs_cons, norm_bl, norm_int, norm_str, norm_tup, norm_lst, norm_non, take_len0, take_set, take_app, need_t, val_int, val_str, val_bl, val_tup, val_lst, val_non, look_0, look_s, tru_bl, tru_int, both, one, ixl_0, ixl_1, ixl_2, ixl_3, ixt_0, ixt_1, ixt_2, ixt_3, add_i, sub_i, lt_i, le_i, gt_i, ge_i, len_l, len_t, abs_i, int_b, frz_int, frz_str, frz_bl, frz_tup, frz_lst, frz_non, set_same, len_set, set_s, set_0, bR_some, ret_ret, eq_str, ne_str, val_new, need_nil, newL_ok, norm_new, ret_next, p18, p8, List.map_cons, List.map_nil, List.replicate, List.cons_append, List.nil_append, Option.map_some, Bool.not_true, Bool.not_false, e1, t1, hs1, fr1, ne1, hc1, nm1, e2, t2, vc1, ix1', t2', e3, t3, hs2, fr2, ne2, hc2, nm2, e4, t4, vc2, ix2', t4', ne3, f1, nt, q1]
    trace_state
  · exact (f3.of (by rw [List.getElem?_take, if_pos (by omega)])).mono (by omega)

/-! ### the program's own -/
theorem tagO : (Str.ofString "of" == Str.ofString "of") = true := by decide +kernel
theorem tagBO : (Str.ofString "bind" == Str.ofString "of") = false := by decide +kernel
theorem tagBB : (Str.ofString "bind" == Str.ofString "bind") = true := by decide +kernel
theorem tagNO : (Str.ofString "name" == Str.ofString "of") = false := by decide +kernel
theorem tagNB : (Str.ofString "name" == Str.ofString "bind") = false := by decide +kernel
theorem tagHO : (Str.ofString "hole" == Str.ofString "of") = false := by decide +kernel
theorem tagHB : (Str.ofString "hole" == Str.ofString "bind") = false := by decide +kernel
theorem tagOB : (Str.ofString "of" == Str.ofString "bind") = false := by decide +kernel
theorem need1 {x : D} (r : R D) : R.need (decide ([x].length ≤ line)) r = r := rfl
theorem need3 {x y z : D} (r : R D) : R.need (decide ([x, y, z].length ≤ line)) r = r := rfl
theorem parts_of {k W : Nat} {S : Cells} (t : Tm) : callF T.prog W (k + 1) "parts_of" [t.d] S = .ok (.tup (Tm.ds t.kids)) S := by
  have e := call_def (T := T) ok (d := d_parts_of) (by unfold T; simp) (k := k) (W := W) (ds := [t.d]) (S := S) rfl
  rw [show d_parts_of.x = "parts_of" from rfl] at e
  rw [e]
  cases t with
  | hole s => simp only [Tm.d, Tm.kids, Tm.ds, d_parts_of, b_parts_of, x_nil, x_cons, x_k, x_v, x_g, x_tup, x_lst, x_bin, x_neg, x_cmp, x_chain, x_and, x_or, x_not, x_ite, x_int1, x_ix, x_sl, x_isi, x_call, x_callk, x_blt, x_mth, x_lc, x_tsnil, x_ts1, x_seq, x_rng1, x_enum, y_expr, y_ret, y_retN, y_set, y_unp, y_seti, y_star, y_ite, y_for, y_pass, y_cont, y_brk, y_nil, y_cons, y_aug, frzs2_c0, frzs1_c0, es2_c0, es1_c0, tup2_c0, tup1_c0, lst2_c0, lst1_c0, bin2_c0, bin1_c0, cmp2_c0, cmp1_c0, chain4_c0, chain3_c0, chain3_c1, chain2_c0, chain1_c0, and2_c0, and2_c1, and1_c0, or2_c0, or2_c1, or1_c0, tr2_c0, tr1_c0, not2_c0, not1_c0, ite1_c0, ite1_c1, ix2_c0, ix1_c0, sl3_c0, sl2_c0, sl1_c0, isi1_c0, call1_c0, callk1_c0, blt1_c0, mth2_c0, mth1_c0, lcT2_c0, lcT1_c0, lcT1_c1, lc1_c0, ts2_c0, seq1_c0, rng1_c0, enum1_c0, sret_c0, sset_c0, sunp2_c0, sunp_c0, sseti3_c0, sseti2_c0, sseti1_c0, sstar_c0, site_c0, site_c1, sfor_c0, saug2_c0, saug1_c0, saug_c0, neg1_ok, int1_ok, ts1_ok, enum2_ok, sexpr_ok, sseti4_ok, sthn_next, sthn_ret, sthn_brk, sthn_cont, frzs_nil, frzs_cons, norm_bl, norm_int, norm_str, norm_tup, norm_lst, norm_non, take_len0, take_set, take_app, need_t, val_int, val_str, val_bl, val_tup, val_lst, val_non, look_0, look_s, tru_bl, tru_int, both, one, ixl_0, ixl_1, ixl_2, ixl_3, ixt_0, ixt_1, ixt_2, ixt_3, add_i, sub_i, lt_i, le_i, gt_i, ge_i, len_l, len_t, abs_i, int_b, frz_int, frz_str, frz_bl, frz_tup, frz_lst, frz_non, set_same, len_set, set_s, set_0, bR_some, ret_ret, eq_str, ne_str, val_new, need_nil, newL_ok, norm_new, ret_next, p18, p8, List.map_cons, List.map_nil, List.replicate, List.cons_append, List.nil_append, Option.map_some, Bool.not_true, Bool.not_false, tagHO, tagHB, need_nil]
  | name s => simp only [Tm.d, Tm.kids, Tm.ds, d_parts_of, b_parts_of, x_nil, x_cons, x_k, x_v, x_g, x_tup, x_lst, x_bin, x_neg, x_cmp, x_chain, x_and, x_or, x_not, x_ite, x_int1, x_ix, x_sl, x_isi, x_call, x_callk, x_blt, x_mth, x_lc, x_tsnil, x_ts1, x_seq, x_rng1, x_enum, y_expr, y_ret, y_retN, y_set, y_unp, y_seti, y_star, y_ite, y_for, y_pass, y_cont, y_brk, y_nil, y_cons, y_aug, frzs2_c0, frzs1_c0, es2_c0, es1_c0, tup2_c0, tup1_c0, lst2_c0, lst1_c0, bin2_c0, bin1_c0, cmp2_c0, cmp1_c0, chain4_c0, chain3_c0, chain3_c1, chain2_c0, chain1_c0, and2_c0, and2_c1, and1_c0, or2_c0, or2_c1, or1_c0, tr2_c0, tr1_c0, not2_c0, not1_c0, ite1_c0, ite1_c1, ix2_c0, ix1_c0, sl3_c0, sl2_c0, sl1_c0, isi1_c0, call1_c0, callk1_c0, blt1_c0, mth2_c0, mth1_c0, lcT2_c0, lcT1_c0, lcT1_c1, lc1_c0, ts2_c0, seq1_c0, rng1_c0, enum1_c0, sret_c0, sset_c0, sunp2_c0, sunp_c0, sseti3_c0, sseti2_c0, sseti1_c0, sstar_c0, site_c0, site_c1, sfor_c0, saug2_c0, saug1_c0, saug_c0, neg1_ok, int1_ok, ts1_ok, enum2_ok, sexpr_ok, sseti4_ok, sthn_next, sthn_ret, sthn_brk, sthn_cont, frzs_nil, frzs_cons, norm_bl, norm_int, norm_str, norm_tup, norm_lst, norm_non, take_len0, take_set, take_app, need_t, val_int, val_str, val_bl, val_tup, val_lst, val_non, look_0, look_s, tru_bl, tru_int, both, one, ixl_0, ixl_1, ixl_2, ixl_3, ixt_0, ixt_1, ixt_2, ixt_3, add_i, sub_i, lt_i, le_i, gt_i, ge_i, len_l, len_t, abs_i, int_b, frz_int, frz_str, frz_bl, frz_tup, frz_lst, frz_non, set_same, len_set, set_s, set_0, bR_some, ret_ret, eq_str, ne_str, val_new, need_nil, newL_ok, norm_new, ret_next, p18, p8, List.map_cons, List.map_nil, List.replicate, List.cons_append, List.nil_append, Option.map_some, Bool.not_true, Bool.not_false, tagNO, tagNB, need_nil]
  | of w ts => simp only [Tm.d, Tm.kids, Tm.ds, d_parts_of, b_parts_of, x_nil, x_cons, x_k, x_v, x_g, x_tup, x_lst, x_bin, x_neg, x_cmp, x_chain, x_and, x_or, x_not, x_ite, x_int1, x_ix, x_sl, x_isi, x_call, x_callk, x_blt, x_mth, x_lc, x_tsnil, x_ts1, x_seq, x_rng1, x_enum, y_expr, y_ret, y_retN, y_set, y_unp, y_seti, y_star, y_ite, y_for, y_pass, y_cont, y_brk, y_nil, y_cons, y_aug, frzs2_c0, frzs1_c0, es2_c0, es1_c0, tup2_c0, tup1_c0, lst2_c0, lst1_c0, bin2_c0, bin1_c0, cmp2_c0, cmp1_c0, chain4_c0, chain3_c0, chain3_c1, chain2_c0, chain1_c0, and2_c0, and2_c1, and1_c0, or2_c0, or2_c1, or1_c0, tr2_c0, tr1_c0, not2_c0, not1_c0, ite1_c0, ite1_c1, ix2_c0, ix1_c0, sl3_c0, sl2_c0, sl1_c0, isi1_c0, call1_c0, callk1_c0, blt1_c0, mth2_c0, mth1_c0, lcT2_c0, lcT1_c0, lcT1_c1, lc1_c0, ts2_c0, seq1_c0, rng1_c0, enum1_c0, sret_c0, sset_c0, sunp2_c0, sunp_c0, sseti3_c0, sseti2_c0, sseti1_c0, sstar_c0, site_c0, site_c1, sfor_c0, saug2_c0, saug1_c0, saug_c0, neg1_ok, int1_ok, ts1_ok, enum2_ok, sexpr_ok, sseti4_ok, sthn_next, sthn_ret, sthn_brk, sthn_cont, frzs_nil, frzs_cons, norm_bl, norm_int, norm_str, norm_tup, norm_lst, norm_non, take_len0, take_set, take_app, need_t, val_int, val_str, val_bl, val_tup, val_lst, val_non, look_0, look_s, tru_bl, tru_int, both, one, ixl_0, ixl_1, ixl_2, ixl_3, ixt_0, ixt_1, ixt_2, ixt_3, add_i, sub_i, lt_i, le_i, gt_i, ge_i, len_l, len_t, abs_i, int_b, frz_int, frz_str, frz_bl, frz_tup, frz_lst, frz_non, set_same, len_set, set_s, set_0, bR_some, ret_ret, eq_str, ne_str, val_new, need_nil, newL_ok, norm_new, ret_next, p18, p8, List.map_cons, List.map_nil, List.replicate, List.cons_append, List.nil_append, Option.map_some, Bool.not_true, Bool.not_false, tagO]
  | bind w n t =>
    have ft := fun S0 : Cells => show frz t.d S0 = .ok t.d S0 by cases t <;> rw [Tm.d] <;> rfl
    have nt := fun {S0 : Cells} (n : Nat) => show norm n (.ok t.d S0) = .ok t.d (S0.take n) by cases t <;> rw [Tm.d] <;> rfl
    simp only [Tm.d, Tm.kids, Tm.ds, d_parts_of, b_parts_of, x_nil, x_cons, x_k, x_v, x_g, x_tup, x_lst, x_bin, x_neg, x_cmp, x_chain, x_and, x_or, x_not, x_ite, x_int1, x_ix, x_sl, x_isi, x_call, x_callk, x_blt, x_mth, x_lc, x_tsnil, x_ts1, x_seq, x_rng1, x_enum, y_expr, y_ret, y_retN, y_set, y_unp, y_seti, y_star, y_ite, y_for, y_pass, y_cont, y_brk, y_nil, y_cons, y_aug, frzs2_c0, frzs1_c0, es2_c0, es1_c0, tup2_c0, tup1_c0, lst2_c0, lst1_c0, bin2_c0, bin1_c0, cmp2_c0, cmp1_c0, chain4_c0, chain3_c0, chain3_c1, chain2_c0, chain1_c0, and2_c0, and2_c1, and1_c0, or2_c0, or2_c1, or1_c0, tr2_c0, tr1_c0, not2_c0, not1_c0, ite1_c0, ite1_c1, ix2_c0, ix1_c0, sl3_c0, sl2_c0, sl1_c0, isi1_c0, call1_c0, callk1_c0, blt1_c0, mth2_c0, mth1_c0, lcT2_c0, lcT1_c0, lcT1_c1, lc1_c0, ts2_c0, seq1_c0, rng1_c0, enum1_c0, sret_c0, sset_c0, sunp2_c0, sunp_c0, sseti3_c0, sseti2_c0, sseti1_c0, sstar_c0, site_c0, site_c1, sfor_c0, saug2_c0, saug1_c0, saug_c0, neg1_ok, int1_ok, ts1_ok, enum2_ok, sexpr_ok, sseti4_ok, sthn_next, sthn_ret, sthn_brk, sthn_cont, frzs_nil, frzs_cons, norm_bl, norm_int, norm_str, norm_tup, norm_lst, norm_non, take_len0, take_set, take_app, need_t, val_int, val_str, val_bl, val_tup, val_lst, val_non, look_0, look_s, tru_bl, tru_int, both, one, ixl_0, ixl_1, ixl_2, ixl_3, ixt_0, ixt_1, ixt_2, ixt_3, add_i, sub_i, lt_i, le_i, gt_i, ge_i, len_l, len_t, abs_i, int_b, frz_int, frz_str, frz_bl, frz_tup, frz_lst, frz_non, set_same, len_set, set_s, set_0, bR_some, ret_ret, eq_str, ne_str, val_new, need_nil, newL_ok, norm_new, ret_next, p18, p8, List.map_cons, List.map_nil, List.replicate, List.cons_append, List.nil_append, Option.map_some, Bool.not_true, Bool.not_false, tagBO, tagBB, need1, ft, nt]
theorem inside {k W : Nat} {S : Cells} (t : Tm) : callF T.prog W (k + 1) "_law_inside" [t.d] S = .ok (.ref S.length) (S ++ [⟨.mu, .lst (Tm.ds t.kids)⟩]) := by
  have e := call_def (T := T) ok (d := d__law_inside) (by unfold T; simp) (k := k) (W := W) (ds := [t.d]) (S := S) rfl
  rw [show d__law_inside.x = "_law_inside" from rfl] at e
  rw [e]
  have bl : ∀ xs, bltV .list [.tup xs] S = newL xs S := fun _ => rfl
  cases t with
  | hole s => simp only [Tm.d, Tm.kids, Tm.ds, d__law_inside, b__law_inside, x_nil, x_cons, x_k, x_v, x_g, x_tup, x_lst, x_bin, x_neg, x_cmp, x_chain, x_and, x_or, x_not, x_ite, x_int1, x_ix, x_sl, x_isi, x_call, x_callk, x_blt, x_mth, x_lc, x_tsnil, x_ts1, x_seq, x_rng1, x_enum, y_expr, y_ret, y_retN, y_set, y_unp, y_seti, y_star, y_ite, y_for, y_pass, y_cont, y_brk, y_nil, y_cons, y_aug, frzs2_c0, frzs1_c0, es2_c0, es1_c0, tup2_c0, tup1_c0, lst2_c0, lst1_c0, bin2_c0, bin1_c0, cmp2_c0, cmp1_c0, chain4_c0, chain3_c0, chain3_c1, chain2_c0, chain1_c0, and2_c0, and2_c1, and1_c0, or2_c0, or2_c1, or1_c0, tr2_c0, tr1_c0, not2_c0, not1_c0, ite1_c0, ite1_c1, ix2_c0, ix1_c0, sl3_c0, sl2_c0, sl1_c0, isi1_c0, call1_c0, callk1_c0, blt1_c0, mth2_c0, mth1_c0, lcT2_c0, lcT1_c0, lcT1_c1, lc1_c0, ts2_c0, seq1_c0, rng1_c0, enum1_c0, sret_c0, sset_c0, sunp2_c0, sunp_c0, sseti3_c0, sseti2_c0, sseti1_c0, sstar_c0, site_c0, site_c1, sfor_c0, saug2_c0, saug1_c0, saug_c0, neg1_ok, int1_ok, ts1_ok, enum2_ok, sexpr_ok, sseti4_ok, sthn_next, sthn_ret, sthn_brk, sthn_cont, frzs_nil, frzs_cons, norm_bl, norm_int, norm_str, norm_tup, norm_lst, norm_non, take_len0, take_set, take_app, need_t, val_int, val_str, val_bl, val_tup, val_lst, val_non, look_0, look_s, tru_bl, tru_int, both, one, ixl_0, ixl_1, ixl_2, ixl_3, ixt_0, ixt_1, ixt_2, ixt_3, add_i, sub_i, lt_i, le_i, gt_i, ge_i, len_l, len_t, abs_i, int_b, frz_int, frz_str, frz_bl, frz_tup, frz_lst, frz_non, set_same, len_set, set_s, set_0, bR_some, ret_ret, eq_str, ne_str, val_new, need_nil, newL_ok, norm_new, ret_next, p18, p8, List.map_cons, List.map_nil, List.replicate, List.cons_append, List.nil_append, Option.map_some, Bool.not_true, Bool.not_false, tagHO, tagHB, need_nil]
  | name s => simp only [Tm.d, Tm.kids, Tm.ds, d__law_inside, b__law_inside, x_nil, x_cons, x_k, x_v, x_g, x_tup, x_lst, x_bin, x_neg, x_cmp, x_chain, x_and, x_or, x_not, x_ite, x_int1, x_ix, x_sl, x_isi, x_call, x_callk, x_blt, x_mth, x_lc, x_tsnil, x_ts1, x_seq, x_rng1, x_enum, y_expr, y_ret, y_retN, y_set, y_unp, y_seti, y_star, y_ite, y_for, y_pass, y_cont, y_brk, y_nil, y_cons, y_aug, frzs2_c0, frzs1_c0, es2_c0, es1_c0, tup2_c0, tup1_c0, lst2_c0, lst1_c0, bin2_c0, bin1_c0, cmp2_c0, cmp1_c0, chain4_c0, chain3_c0, chain3_c1, chain2_c0, chain1_c0, and2_c0, and2_c1, and1_c0, or2_c0, or2_c1, or1_c0, tr2_c0, tr1_c0, not2_c0, not1_c0, ite1_c0, ite1_c1, ix2_c0, ix1_c0, sl3_c0, sl2_c0, sl1_c0, isi1_c0, call1_c0, callk1_c0, blt1_c0, mth2_c0, mth1_c0, lcT2_c0, lcT1_c0, lcT1_c1, lc1_c0, ts2_c0, seq1_c0, rng1_c0, enum1_c0, sret_c0, sset_c0, sunp2_c0, sunp_c0, sseti3_c0, sseti2_c0, sseti1_c0, sstar_c0, site_c0, site_c1, sfor_c0, saug2_c0, saug1_c0, saug_c0, neg1_ok, int1_ok, ts1_ok, enum2_ok, sexpr_ok, sseti4_ok, sthn_next, sthn_ret, sthn_brk, sthn_cont, frzs_nil, frzs_cons, norm_bl, norm_int, norm_str, norm_tup, norm_lst, norm_non, take_len0, take_set, take_app, need_t, val_int, val_str, val_bl, val_tup, val_lst, val_non, look_0, look_s, tru_bl, tru_int, both, one, ixl_0, ixl_1, ixl_2, ixl_3, ixt_0, ixt_1, ixt_2, ixt_3, add_i, sub_i, lt_i, le_i, gt_i, ge_i, len_l, len_t, abs_i, int_b, frz_int, frz_str, frz_bl, frz_tup, frz_lst, frz_non, set_same, len_set, set_s, set_0, bR_some, ret_ret, eq_str, ne_str, val_new, need_nil, newL_ok, norm_new, ret_next, p18, p8, List.map_cons, List.map_nil, List.replicate, List.cons_append, List.nil_append, Option.map_some, Bool.not_true, Bool.not_false, tagNO, tagNB, need_nil]
  | of w ts => simp only [Tm.d, Tm.kids, Tm.ds, d__law_inside, b__law_inside, x_nil, x_cons, x_k, x_v, x_g, x_tup, x_lst, x_bin, x_neg, x_cmp, x_chain, x_and, x_or, x_not, x_ite, x_int1, x_ix, x_sl, x_isi, x_call, x_callk, x_blt, x_mth, x_lc, x_tsnil, x_ts1, x_seq, x_rng1, x_enum, y_expr, y_ret, y_retN, y_set, y_unp, y_seti, y_star, y_ite, y_for, y_pass, y_cont, y_brk, y_nil, y_cons, y_aug, frzs2_c0, frzs1_c0, es2_c0, es1_c0, tup2_c0, tup1_c0, lst2_c0, lst1_c0, bin2_c0, bin1_c0, cmp2_c0, cmp1_c0, chain4_c0, chain3_c0, chain3_c1, chain2_c0, chain1_c0, and2_c0, and2_c1, and1_c0, or2_c0, or2_c1, or1_c0, tr2_c0, tr1_c0, not2_c0, not1_c0, ite1_c0, ite1_c1, ix2_c0, ix1_c0, sl3_c0, sl2_c0, sl1_c0, isi1_c0, call1_c0, callk1_c0, blt1_c0, mth2_c0, mth1_c0, lcT2_c0, lcT1_c0, lcT1_c1, lc1_c0, ts2_c0, seq1_c0, rng1_c0, enum1_c0, sret_c0, sset_c0, sunp2_c0, sunp_c0, sseti3_c0, sseti2_c0, sseti1_c0, sstar_c0, site_c0, site_c1, sfor_c0, saug2_c0, saug1_c0, saug_c0, neg1_ok, int1_ok, ts1_ok, enum2_ok, sexpr_ok, sseti4_ok, sthn_next, sthn_ret, sthn_brk, sthn_cont, frzs_nil, frzs_cons, norm_bl, norm_int, norm_str, norm_tup, norm_lst, norm_non, take_len0, take_set, take_app, need_t, val_int, val_str, val_bl, val_tup, val_lst, val_non, look_0, look_s, tru_bl, tru_int, both, one, ixl_0, ixl_1, ixl_2, ixl_3, ixt_0, ixt_1, ixt_2, ixt_3, add_i, sub_i, lt_i, le_i, gt_i, ge_i, len_l, len_t, abs_i, int_b, frz_int, frz_str, frz_bl, frz_tup, frz_lst, frz_non, set_same, len_set, set_s, set_0, bR_some, ret_ret, eq_str, ne_str, val_new, need_nil, newL_ok, norm_new, ret_next, p18, p8, List.map_cons, List.map_nil, List.replicate, List.cons_append, List.nil_append, Option.map_some, Bool.not_true, Bool.not_false, tagO, bl]
  | bind w n t =>
    have ft := fun S0 : Cells => show frz t.d S0 = .ok t.d S0 by cases t <;> rw [Tm.d] <;> rfl
    have nt := fun {S0 : Cells} (n : Nat) => show norm n (.ok t.d S0) = .ok t.d (S0.take n) by cases t <;> rw [Tm.d] <;> rfl
    simp only [Tm.d, Tm.kids, Tm.ds, d__law_inside, b__law_inside, x_nil, x_cons, x_k, x_v, x_g, x_tup, x_lst, x_bin, x_neg, x_cmp, x_chain, x_and, x_or, x_not, x_ite, x_int1, x_ix, x_sl, x_isi, x_call, x_callk, x_blt, x_mth, x_lc, x_tsnil, x_ts1, x_seq, x_rng1, x_enum, y_expr, y_ret, y_retN, y_set, y_unp, y_seti, y_star, y_ite, y_for, y_pass, y_cont, y_brk, y_nil, y_cons, y_aug, frzs2_c0, frzs1_c0, es2_c0, es1_c0, tup2_c0, tup1_c0, lst2_c0, lst1_c0, bin2_c0, bin1_c0, cmp2_c0, cmp1_c0, chain4_c0, chain3_c0, chain3_c1, chain2_c0, chain1_c0, and2_c0, and2_c1, and1_c0, or2_c0, or2_c1, or1_c0, tr2_c0, tr1_c0, not2_c0, not1_c0, ite1_c0, ite1_c1, ix2_c0, ix1_c0, sl3_c0, sl2_c0, sl1_c0, isi1_c0, call1_c0, callk1_c0, blt1_c0, mth2_c0, mth1_c0, lcT2_c0, lcT1_c0, lcT1_c1, lc1_c0, ts2_c0, seq1_c0, rng1_c0, enum1_c0, sret_c0, sset_c0, sunp2_c0, sunp_c0, sseti3_c0, sseti2_c0, sseti1_c0, sstar_c0, site_c0, site_c1, sfor_c0, saug2_c0, saug1_c0, saug_c0, neg1_ok, int1_ok, ts1_ok, enum2_ok, sexpr_ok, sseti4_ok, sthn_next, sthn_ret, sthn_brk, sthn_cont, frzs_nil, frzs_cons, norm_bl, norm_int, norm_str, norm_tup, norm_lst, norm_non, take_len0, take_set, take_app, need_t, val_int, val_str, val_bl, val_tup, val_lst, val_non, look_0, look_s, tru_bl, tru_int, both, one, ixl_0, ixl_1, ixl_2, ixl_3, ixt_0, ixt_1, ixt_2, ixt_3, add_i, sub_i, lt_i, le_i, gt_i, ge_i, len_l, len_t, abs_i, int_b, frz_int, frz_str, frz_bl, frz_tup, frz_lst, frz_non, set_same, len_set, set_s, set_0, bR_some, ret_ret, eq_str, ne_str, val_new, need_nil, newL_ok, norm_new, ret_next, p18, p8, List.map_cons, List.map_nil, List.replicate, List.cons_append, List.nil_append, Option.map_some, Bool.not_true, Bool.not_false, tagBO, tagBB, need1, ft, nt]
theorem is_whole {k W : Nat} {S : Cells} {i a b : Int} (h1 : a ≤ i) (h2 : i ≤ b) : callF T.prog W (k + 1) "is_whole" [.int i, .int a, .int b] S = .ok (.bl true) S := by
  have e := call_def (T := T) ok (d := d_is_whole) (by unfold T; simp) (k := k) (W := W) (ds := [.int i, .int a, .int b]) (S := S) rfl
  rw [show d_is_whole.x = "is_whole" from rfl] at e
  rw [e]
  have i1 : isiV "int" (.int i) = some true := rfl
  have i2 : isiV "bool" (.int i) = some false := rfl
  have cv : ∀ x y : Int, chainV .le (.int x) (.int y) S = some (decide (x ≤ y)) := fun _ _ => rfl
  simp only [d_is_whole, b_is_whole, x_nil, x_cons, x_k, x_v, x_g, x_tup, x_lst, x_bin, x_neg, x_cmp, x_chain, x_and, x_or, x_not, x_ite, x_int1, x_ix, x_sl, x_isi, x_call, x_callk, x_blt, x_mth, x_lc, x_tsnil, x_ts1, x_seq, x_rng1, x_enum, y_expr, y_ret, y_retN, y_set, y_unp, y_seti, y_star, y_ite, y_for, y_pass, y_cont, y_brk, y_nil, y_cons, y_aug, frzs2_c0, frzs1_c0, es2_c0, es1_c0, tup2_c0, tup1_c0, lst2_c0, lst1_c0, bin2_c0, bin1_c0, cmp2_c0, cmp1_c0, chain4_c0, chain3_c0, chain3_c1, chain2_c0, chain1_c0, and2_c0, and2_c1, and1_c0, or2_c0, or2_c1, or1_c0, tr2_c0, tr1_c0, not2_c0, not1_c0, ite1_c0, ite1_c1, ix2_c0, ix1_c0, sl3_c0, sl2_c0, sl1_c0, isi1_c0, call1_c0, callk1_c0, blt1_c0, mth2_c0, mth1_c0, lcT2_c0, lcT1_c0, lcT1_c1, lc1_c0, ts2_c0, seq1_c0, rng1_c0, enum1_c0, sret_c0, sset_c0, sunp2_c0, sunp_c0, sseti3_c0, sseti2_c0, sseti1_c0, sstar_c0, site_c0, site_c1, sfor_c0, saug2_c0, saug1_c0, saug_c0, neg1_ok, int1_ok, ts1_ok, enum2_ok, sexpr_ok, sseti4_ok, sthn_next, sthn_ret, sthn_brk, sthn_cont, frzs_nil, frzs_cons, norm_bl, norm_int, norm_str, norm_tup, norm_lst, norm_non, take_len0, take_set, take_app, need_t, val_int, val_str, val_bl, val_tup, val_lst, val_non, look_0, look_s, tru_bl, tru_int, both, one, ixl_0, ixl_1, ixl_2, ixl_3, ixt_0, ixt_1, ixt_2, ixt_3, add_i, sub_i, lt_i, le_i, gt_i, ge_i, len_l, len_t, abs_i, int_b, frz_int, frz_str, frz_bl, frz_tup, frz_lst, frz_non, set_same, len_set, set_s, set_0, bR_some, ret_ret, eq_str, ne_str, val_new, need_nil, newL_ok, norm_new, ret_next, p18, p8, List.map_cons, List.map_nil, List.replicate, List.cons_append, List.nil_append, Option.map_some, Bool.not_true, Bool.not_false, i1, i2, and2_c0, cv, decide_eq_true h1, decide_eq_true h2, chain3_c0]
def wBody : Sxs := (.cons (.set 4 (.call "parts_of" (.cons (.ix (.v 2) (.neg (.k (.int 1)))) .nil)))
    (.cons (.ite (.not (.call "is_whole" (.cons (.v 3) (.cons (.k (.int 0)) (.cons (.bin .sub (.blt .len (.cons (.v 4) .nil)) (.k (.int 1))) .nil)))))
    (.cons .never
    .nil)
    .nil)
    (.cons (.expr (.mth .append (.v 2) (.cons (.ix (.v 4) (.v 3)) .nil)))
    .nil)))
theorem w_split : b_way_to = (.cons (.ite (.not (.isi (.v 1) "tuple"))
    (.cons .never
    .nil)
    .nil)
    (.cons (.set 2 (.lst (.cons (.v 0) .nil)))
    (.cons (.for (.v 3) (.seq (.v 1))
    wBody)
    (.cons (.ret (.v 2))
    .nil)))) := rfl
theorem way_to {k W : Nat} {S : Cells} {t : Tm} {path : List Nat} {ws : List Tm} (h : Way t path ws) (hl : path.length ≤ 100) : callF T.prog W (k + 2) "way_to" [t.d, .tup (path.map fun (i : Nat) => D.int i)] S = .ok (.ref S.length) (S ++ [⟨.mu, .lst (ws.map Tm.d)⟩]) := by
  have e := call_def (T := T) ok (d := d_way_to) (by unfold T; simp) (k := k + 1) (W := W) (ds := [t.d, .tup (path.map fun (i : Nat) => D.int i)]) (S := S) rfl
  rw [show d_way_to.x = "way_to" from rfl] at e
  rw [e]
  have i1 : ∀ xs, isiV "tuple" (.tup xs) = some true := fun _ => rfl
  have ft := fun (t : Tm) (S0 : Cells) => show frz t.d S0 = .ok t.d S0 by cases t <;> rw [Tm.d] <;> rfl
  have hd : ∀ {n : Nat} {xs : List D} {S : Cells}, hold n (.tup xs) S = .ok (xs, none) (S.take n) := fun {n xs S} => rfl
  have key := for_inv (f := forTurn (callF T.prog W (k + 1)) W (.v 3) wBody)
    (fun i ρ S' => S' = S ++ [⟨.mu, .lst ((ws.take (i + 1)).map Tm.d)⟩] ∧ ∃ o3 o4, ρ = [some t.d, some (.tup (path.map fun (i : Nat) => D.int i)), some (.ref S.length), o3, o4])
    (xs := path.map fun (i : Nat) => D.int i) (ρ := [some t.d, some (.tup (path.map fun (i : Nat) => D.int i)), some (.ref S.length), none, none]) (S := S ++ [⟨.mu, .lst [t.d]⟩]) (i0 := 0)
    ⟨by
      have h0 := h.top
      cases ws with
      | nil => simp at h0
      | cons a r => simp at h0; subst h0; rfl, none, none, rfl⟩ (by
      rintro i x ρ S' hx ⟨rfl, o3, o4, rfl⟩
      rw [Nat.zero_add]
      rw [List.getElem?_map] at hx
      cases hj : path[i]? with
      | none => rw [hj] at hx; cases hx
      | some j =>
        rw [hj] at hx
        cases hx
        obtain ⟨u, v, g1, g2, g3⟩ := h.step i j hj
        have hi := (List.getElem?_eq_some_iff.mp hj).1
        have hwl := h.len
        have tkn : ws.take (i + 1) = ws.take i ++ [u] := by
          rw [List.take_add_one, g1]; rfl
        have tkn2 : ws.take (i + 1 + 1) = ws.take (i + 1) ++ [v] := by
          rw [List.take_add_one, g2]; rfl
        have vf : val (S ++ [⟨.mu, .lst ((ws.take (i + 1)).map Tm.d)⟩]) (.ref S.length) = some (.lst ((ws.take i).map Tm.d ++ [u.d])) := by
          rw [tkn, List.map_append]; exact val_at (L := []) rfl
        have il := ix_last (S := S ++ [⟨.mu, .lst ((ws.take (i + 1)).map Tm.d)⟩]) (xs := (ws.take i).map Tm.d) (d := u.d)
        have nt := fun {S0 : Cells} (n : Nat) (t : Tm) => show norm n (.ok t.d S0) = .ok t.d (S0.take n) by cases t <;> rw [Tm.d] <;> rfl
        have pk : (Tm.ds u.kids)[((j : Nat) : Int).toNat]? = some v.d := by rw [ds_map, Int.toNat_natCast, List.getElem?_map, g3]; rfl
        have hjl : j < (Tm.ds u.kids).length := by
          have := (List.getElem?_eq_some_iff.mp pk).1
          rwa [Int.toNat_natCast] at this
        have iw := fun S => is_whole (k := k) (W := W) (S := S) (i := (j : Int)) (a := 0) (b := ((Tm.ds u.kids).length : Int) - 1) (by omega) (by omega)
        have it : ∀ S, ixV (.tup (Tm.ds u.kids)) (.int (j : Int)) S = .ok v.d S := fun S => by
          have := ix_at (S := S) (i := (j : Int)) (by omega) pk
          exact this
        have ga : (S ++ [(⟨.mu, .lst ((ws.take (i + 1)).map Tm.d)⟩ : Cell)])[S.length]? = some ⟨.mu, .lst ((ws.take (i + 1)).map Tm.d)⟩ := by simp
        have ap := append_ok ga (ft v _) (by rw [List.length_map, List.length_take]; omega)
        have sa : (S ++ [(⟨.mu, .lst ((ws.take (i + 1)).map Tm.d)⟩ : Cell)]).set S.length ⟨.mu, .lst ((ws.take (i + 1)).map Tm.d ++ [v.d])⟩ = S ++ [⟨.mu, .lst ((ws.take (i + 1 + 1)).map Tm.d)⟩] := by
          rw [tkn2, List.map_append]; simp
        rw [sa] at ap
        have tkk : ∀ {a b : Cell}, (S ++ [a]).take (S ++ [b]).length = S ++ [a] := fun {a b} => tk_all (by simp)
        refine ⟨[some t.d, some (.tup (path.map fun (i : Nat) => D.int i)), some (.ref S.length), some (.int j), some (.tup (Tm.ds u.kids))], S ++ [⟨.mu, .lst ((ws.take (i + 1 + 1)).map Tm.d)⟩], .inl ?_, rfl, _, _, rfl⟩
        simp only [VS.forTurn, asg, wBody, x_nil, x_cons, x_k, x_v, x_g, x_tup, x_lst, x_bin, x_neg, x_cmp, x_chain, x_and, x_or, x_not, x_ite, x_int1, x_ix, x_sl, x_isi, x_call, x_callk, x_blt, x_mth, x_lc, x_tsnil, x_ts1, x_seq, x_rng1, x_enum, y_expr, y_ret, y_retN, y_set, y_unp, y_seti, y_star, y_ite, y_for, y_pass, y_cont, y_brk, y_nil, y_cons, y_aug, frzs2_c0, frzs1_c0, es2_c0, es1_c0, tup2_c0, tup1_c0, lst2_c0, lst1_c0, bin2_c0, bin1_c0, cmp2_c0, cmp1_c0, chain4_c0, chain3_c0, chain3_c1, chain2_c0, chain1_c0, and2_c0, and2_c1, and1_c0, or2_c0, or2_c1, or1_c0, tr2_c0, tr1_c0, not2_c0, not1_c0, ite1_c0, ite1_c1, ix2_c0, ix1_c0, sl3_c0, sl2_c0, sl1_c0, isi1_c0, call1_c0, callk1_c0, blt1_c0, mth2_c0, mth1_c0, lcT2_c0, lcT1_c0, lcT1_c1, lc1_c0, ts2_c0, seq1_c0, rng1_c0, enum1_c0, sret_c0, sset_c0, sunp2_c0, sunp_c0, sseti3_c0, sseti2_c0, sseti1_c0, sstar_c0, site_c0, site_c1, sfor_c0, saug2_c0, saug1_c0, saug_c0, neg1_ok, int1_ok, ts1_ok, enum2_ok, sexpr_ok, sseti4_ok, sthn_next, sthn_ret, sthn_brk, sthn_cont, frzs_nil, frzs_cons, norm_bl, norm_int, norm_str, norm_tup, norm_lst, norm_non, take_len0, take_set, take_app, need_t, val_int, val_str, val_bl, val_tup, val_lst, val_non, look_0, look_s, tru_bl, tru_int, both, one, ixl_0, ixl_1, ixl_2, ixl_3, ixt_0, ixt_1, ixt_2, ixt_3, add_i, sub_i, lt_i, le_i, gt_i, ge_i, len_l, len_t, abs_i, int_b, frz_int, frz_str, frz_bl, frz_tup, frz_lst, frz_non, set_same, len_set, set_s, set_0, bR_some, ret_ret, eq_str, ne_str, val_new, need_nil, newL_ok, norm_new, ret_next, p18, p8, List.map_cons, List.map_nil, List.replicate, List.cons_append, List.nil_append, Option.map_some, Bool.not_true, Bool.not_false, vf, il, nt, parts_of, iw, it, ap, tkk])
  obtain ⟨ρ', S', ef, rfl, o3, o4, rfl⟩ := key
  rw [Nat.zero_add, List.length_map, List.take_of_length_le (by rw [h.len]; omega)] at ef
  simp only [d_way_to, w_split, x_nil, x_cons, x_k, x_v, x_g, x_tup, x_lst, x_bin, x_neg, x_cmp, x_chain, x_and, x_or, x_not, x_ite, x_int1, x_ix, x_sl, x_isi, x_call, x_callk, x_blt, x_mth, x_lc, x_tsnil, x_ts1, x_seq, x_rng1, x_enum, y_expr, y_ret, y_retN, y_set, y_unp, y_seti, y_star, y_ite, y_for, y_pass, y_cont, y_brk, y_nil, y_cons, y_aug, frzs2_c0, frzs1_c0, es2_c0, es1_c0, tup2_c0, tup1_c0, lst2_c0, lst1_c0, bin2_c0, bin1_c0, cmp2_c0, cmp1_c0, chain4_c0, chain3_c0, chain3_c1, chain2_c0, chain1_c0, and2_c0, and2_c1, and1_c0, or2_c0, or2_c1, or1_c0, tr2_c0, tr1_c0, not2_c0, not1_c0, ite1_c0, ite1_c1, ix2_c0, ix1_c0, sl3_c0, sl2_c0, sl1_c0, isi1_c0, call1_c0, callk1_c0, blt1_c0, mth2_c0, mth1_c0, lcT2_c0, lcT1_c0, lcT1_c1, lc1_c0, ts2_c0, seq1_c0, rng1_c0, enum1_c0, sret_c0, sset_c0, sunp2_c0, sunp_c0, sseti3_c0, sseti2_c0, sseti1_c0, sstar_c0, site_c0, site_c1, sfor_c0, saug2_c0, saug1_c0, saug_c0, neg1_ok, int1_ok, ts1_ok, enum2_ok, sexpr_ok, sseti4_ok, sthn_next, sthn_ret, sthn_brk, sthn_cont, frzs_nil, frzs_cons, norm_bl, norm_int, norm_str, norm_tup, norm_lst, norm_non, take_len0, take_set, take_app, need_t, val_int, val_str, val_bl, val_tup, val_lst, val_non, look_0, look_s, tru_bl, tru_int, both, one, ixl_0, ixl_1, ixl_2, ixl_3, ixt_0, ixt_1, ixt_2, ixt_3, add_i, sub_i, lt_i, le_i, gt_i, ge_i, len_l, len_t, abs_i, int_b, frz_int, frz_str, frz_bl, frz_tup, frz_lst, frz_non, set_same, len_set, set_s, set_0, bR_some, ret_ret, eq_str, ne_str, val_new, need_nil, newL_ok, norm_new, ret_next, p18, p8, List.map_cons, List.map_nil, List.replicate, List.cons_append, List.nil_append, Option.map_some, Bool.not_true, Bool.not_false, i1, need1, ft t, norm_new, hold_tup, ef, forE_0]

theorem way_end {t u : Tm} {path : List Nat} {ws : List Tm} (h : Way t path ws) (hu : ws.getLast? = some u) : ws = ws.dropLast ++ [u] := by
  have hne : ws ≠ [] := by intro z; rw [z] at hu; cases hu
  rw [List.getLast?_eq_some_getLast hne] at hu
  have := Option.some.inj hu
  rw [← this]
  exact (List.dropLast_concat_getLast hne).symm
theorem part_at {k W : Nat} {S : Cells} {t u : Tm} {path : List Nat} {ws : List Tm} (h : Way t path ws) (hu : ws.getLast? = some u) (hl : path.length ≤ 100) : callF T.prog W (k + 3) "part_at" [t.d, .tup (path.map fun (i : Nat) => D.int i)] S = .ok u.d S := by
  have e := call_def (T := T) ok (d := d_part_at) (by unfold T; simp) (k := k + 2) (W := W) (ds := [t.d, .tup (path.map fun (i : Nat) => D.int i)]) (S := S) rfl
  rw [show d_part_at.x = "part_at" from rfl] at e
  rw [e]
  have ew := way_to (k := k) (W := W) (S := S) h hl
  have hw := way_end h hu
  generalize ws.dropLast = init at hw
  rw [hw, List.map_append] at ew
  have st := star_ok (S := S ++ [⟨.mu, .lst (init.map Tm.d ++ [u.d])⟩]) (is := [2, 3]) (k := 0) (ρ := [some t.d, some (.tup (path.map fun (i : Nat) => D.int i)), none, none]) (d := .ref S.length) (ds := init.map Tm.d ++ [u.d])
    (ρ' := [some t.d, some (.tup (path.map fun (i : Nat) => D.int i)), some (.ref (S ++ [⟨.mu, .lst (init.map Tm.d ++ [u.d])⟩] : Cells).length), some u.d]) (val_at (L := []) rfl) (by simp) (by simp [asgs])
  have nt := fun {S0 : Cells} (n : Nat) (t : Tm) => show norm n (.ok t.d S0) = .ok t.d (S0.take n) by cases t <;> rw [Tm.d] <;> rfl
  have tkr : ∀ {A B : Cells}, (S ++ A ++ B).take S.length = S := fun {A B} => by rw [List.append_assoc]; exact List.take_left
  simp only [d_part_at, b_part_at, x_nil, x_cons, x_k, x_v, x_g, x_tup, x_lst, x_bin, x_neg, x_cmp, x_chain, x_and, x_or, x_not, x_ite, x_int1, x_ix, x_sl, x_isi, x_call, x_callk, x_blt, x_mth, x_lc, x_tsnil, x_ts1, x_seq, x_rng1, x_enum, y_expr, y_ret, y_retN, y_set, y_unp, y_seti, y_star, y_ite, y_for, y_pass, y_cont, y_brk, y_nil, y_cons, y_aug, frzs2_c0, frzs1_c0, es2_c0, es1_c0, tup2_c0, tup1_c0, lst2_c0, lst1_c0, bin2_c0, bin1_c0, cmp2_c0, cmp1_c0, chain4_c0, chain3_c0, chain3_c1, chain2_c0, chain1_c0, and2_c0, and2_c1, and1_c0, or2_c0, or2_c1, or1_c0, tr2_c0, tr1_c0, not2_c0, not1_c0, ite1_c0, ite1_c1, ix2_c0, ix1_c0, sl3_c0, sl2_c0, sl1_c0, isi1_c0, call1_c0, callk1_c0, blt1_c0, mth2_c0, mth1_c0, lcT2_c0, lcT1_c0, lcT1_c1, lc1_c0, ts2_c0, seq1_c0, rng1_c0, enum1_c0, sret_c0, sset_c0, sunp2_c0, sunp_c0, sseti3_c0, sseti2_c0, sseti1_c0, sstar_c0, site_c0, site_c1, sfor_c0, saug2_c0, saug1_c0, saug_c0, neg1_ok, int1_ok, ts1_ok, enum2_ok, sexpr_ok, sseti4_ok, sthn_next, sthn_ret, sthn_brk, sthn_cont, frzs_nil, frzs_cons, norm_bl, norm_int, norm_str, norm_tup, norm_lst, norm_non, take_len0, take_set, take_app, need_t, val_int, val_str, val_bl, val_tup, val_lst, val_non, look_0, look_s, tru_bl, tru_int, both, one, ixl_0, ixl_1, ixl_2, ixl_3, ixt_0, ixt_1, ixt_2, ixt_3, add_i, sub_i, lt_i, le_i, gt_i, ge_i, len_l, len_t, abs_i, int_b, frz_int, frz_str, frz_bl, frz_tup, frz_lst, frz_non, set_same, len_set, set_s, set_0, bR_some, ret_ret, eq_str, ne_str, val_new, need_nil, newL_ok, norm_new, ret_next, p18, p8, List.map_cons, List.map_nil, List.replicate, List.cons_append, List.nil_append, Option.map_some, Bool.not_true, Bool.not_false, ew, norm_new, st, nt, tkr]
theorem names_above {k W : Nat} {S : Cells} {t u : Tm} {path : List Nat} {ws : List Tm} (h : Way t path ws) (hu : ws.getLast? = some u) (hl : path.length ≤ 100) : callF T.prog W (k + 3) "names_above" [t.d, .tup (path.map fun (i : Nat) => D.int i)] S = .ok (.ref S.length) (S ++ [⟨.mu, .lst ((ws.dropLast.flatMap Tm.bn).map .str)⟩]) := by
  have e := call_def (T := T) ok (d := d_names_above) (by unfold T; simp) (k := k + 2) (W := W) (ds := [t.d, .tup (path.map fun (i : Nat) => D.int i)]) (S := S) rfl
  rw [show d_names_above.x = "names_above" from rfl] at e
  rw [e]
  have ew := way_to (k := k) (W := W) (S := S) h hl
  have hw := way_end h hu
  have hlen := h.len
  have hil : ws.dropLast.length = path.length := by rw [List.length_dropLast, hlen]; rfl
  generalize ws.dropLast = init at hw hil
  rw [hw, List.map_append] at ew
  generalize hwc : (⟨.mu, .lst (init.map Tm.d ++ [u].map Tm.d)⟩ : Cell) = wc at ew
  have st := star_ok (S := S ++ [wc]) (is := [2, 3]) (k := 0) (ρ := [some t.d, some (.tup (path.map fun (i : Nat) => D.int i)), none, none, none]) (d := .ref S.length) (ds := init.map Tm.d ++ [u.d])
    (ρ' := [some t.d, some (.tup (path.map fun (i : Nat) => D.int i)), some (.ref (S ++ [wc]).length), some u.d, none]) (by rw [← hwc]; exact val_at (L := []) rfl) (by simp) (by simp [asgs])
  have e0 : ((init.map Tm.d ++ [u.d]).drop 0).take ((init.map Tm.d ++ [u.d]).length - ([2, 3].length - 1)) = init.map Tm.d := by simp
  rw [e0] at st
  have ho := hold_old (S := S ++ [wc] ++ [⟨.mu, .lst (init.map Tm.d)⟩]) (m := (S ++ [wc]).length) (xs := init.map Tm.d) (by simp) rfl
  have es : (S ++ [wc] ++ [⟨.mu, .lst (init.map Tm.d)⟩] : Cells).set (S ++ [wc]).length ⟨.lk, .lst (init.map Tm.d)⟩ = S ++ [wc] ++ [⟨.lk, .lst (init.map Tm.d)⟩] := by simp
  rw [es] at ho
  generalize hlk : (S ++ [wc] ++ [⟨.lk, .lst (init.map Tm.d)⟩] : Cells) = Sl at ho
  have key := turns_inv (f := lcTurn (callF T.prog W (k + 2)) (.ix (.v 4) (.k (.int 2))) [4] (.v 4) (.cons (.cmp .eq (.ix (.v 4) (.k (.int 0))) (.k (.str "bind"))) .nil)
      [some t.d, some (.tup (path.map fun (i : Nat) => D.int i)), some (.ref (S ++ [wc]).length), some u.d, none])
    (fun i ys S' => S' = Sl ∧ ys = ((init.take i).flatMap Tm.bn).map .str) (xs := init.map Tm.d) (S := Sl) (ys0 := []) (i0 := 0) ⟨rfl, rfl⟩ (by
      rintro i x ys S' hx ⟨rfl, rfl⟩
      rw [List.getElem?_map] at hx
      cases hj : init[i]? with
      | none => rw [hj] at hx; cases hx
      | some w =>
        rw [hj] at hx
        cases hx
        rw [Nat.zero_add]
        have tkn : init.take (i + 1) = init.take i ++ [w] := by rw [List.take_add_one, hj]; rfl
        rw [tkn, List.flatMap_append, List.map_append]
        refine ⟨(w.bn).map .str, S', ?_, rfl, by simp⟩
        cases w with
        | hole s => simp only [lcTurn, asg, wipeE, Tm.d, Tm.bn, x_nil, x_cons, x_k, x_v, x_g, x_tup, x_lst, x_bin, x_neg, x_cmp, x_chain, x_and, x_or, x_not, x_ite, x_int1, x_ix, x_sl, x_isi, x_call, x_callk, x_blt, x_mth, x_lc, x_tsnil, x_ts1, x_seq, x_rng1, x_enum, y_expr, y_ret, y_retN, y_set, y_unp, y_seti, y_star, y_ite, y_for, y_pass, y_cont, y_brk, y_nil, y_cons, y_aug, frzs2_c0, frzs1_c0, es2_c0, es1_c0, tup2_c0, tup1_c0, lst2_c0, lst1_c0, bin2_c0, bin1_c0, cmp2_c0, cmp1_c0, chain4_c0, chain3_c0, chain3_c1, chain2_c0, chain1_c0, and2_c0, and2_c1, and1_c0, or2_c0, or2_c1, or1_c0, tr2_c0, tr1_c0, not2_c0, not1_c0, ite1_c0, ite1_c1, ix2_c0, ix1_c0, sl3_c0, sl2_c0, sl1_c0, isi1_c0, call1_c0, callk1_c0, blt1_c0, mth2_c0, mth1_c0, lcT2_c0, lcT1_c0, lcT1_c1, lc1_c0, ts2_c0, seq1_c0, rng1_c0, enum1_c0, sret_c0, sset_c0, sunp2_c0, sunp_c0, sseti3_c0, sseti2_c0, sseti1_c0, sstar_c0, site_c0, site_c1, sfor_c0, saug2_c0, saug1_c0, saug_c0, neg1_ok, int1_ok, ts1_ok, enum2_ok, sexpr_ok, sseti4_ok, sthn_next, sthn_ret, sthn_brk, sthn_cont, frzs_nil, frzs_cons, norm_bl, norm_int, norm_str, norm_tup, norm_lst, norm_non, take_len0, take_set, take_app, need_t, val_int, val_str, val_bl, val_tup, val_lst, val_non, look_0, look_s, tru_bl, tru_int, both, one, ixl_0, ixl_1, ixl_2, ixl_3, ixt_0, ixt_1, ixt_2, ixt_3, add_i, sub_i, lt_i, le_i, gt_i, ge_i, len_l, len_t, abs_i, int_b, frz_int, frz_str, frz_bl, frz_tup, frz_lst, frz_non, set_same, len_set, set_s, set_0, bR_some, ret_ret, eq_str, ne_str, val_new, need_nil, newL_ok, norm_new, ret_next, p18, p8, List.map_cons, List.map_nil, List.replicate, List.cons_append, List.nil_append, Option.map_some, Bool.not_true, Bool.not_false, tagHB, lcT1_c0, lcT1_c1, lcT2_c0, keep]
        | name s => simp only [lcTurn, asg, wipeE, Tm.d, Tm.bn, x_nil, x_cons, x_k, x_v, x_g, x_tup, x_lst, x_bin, x_neg, x_cmp, x_chain, x_and, x_or, x_not, x_ite, x_int1, x_ix, x_sl, x_isi, x_call, x_callk, x_blt, x_mth, x_lc, x_tsnil, x_ts1, x_seq, x_rng1, x_enum, y_expr, y_ret, y_retN, y_set, y_unp, y_seti, y_star, y_ite, y_for, y_pass, y_cont, y_brk, y_nil, y_cons, y_aug, frzs2_c0, frzs1_c0, es2_c0, es1_c0, tup2_c0, tup1_c0, lst2_c0, lst1_c0, bin2_c0, bin1_c0, cmp2_c0, cmp1_c0, chain4_c0, chain3_c0, chain3_c1, chain2_c0, chain1_c0, and2_c0, and2_c1, and1_c0, or2_c0, or2_c1, or1_c0, tr2_c0, tr1_c0, not2_c0, not1_c0, ite1_c0, ite1_c1, ix2_c0, ix1_c0, sl3_c0, sl2_c0, sl1_c0, isi1_c0, call1_c0, callk1_c0, blt1_c0, mth2_c0, mth1_c0, lcT2_c0, lcT1_c0, lcT1_c1, lc1_c0, ts2_c0, seq1_c0, rng1_c0, enum1_c0, sret_c0, sset_c0, sunp2_c0, sunp_c0, sseti3_c0, sseti2_c0, sseti1_c0, sstar_c0, site_c0, site_c1, sfor_c0, saug2_c0, saug1_c0, saug_c0, neg1_ok, int1_ok, ts1_ok, enum2_ok, sexpr_ok, sseti4_ok, sthn_next, sthn_ret, sthn_brk, sthn_cont, frzs_nil, frzs_cons, norm_bl, norm_int, norm_str, norm_tup, norm_lst, norm_non, take_len0, take_set, take_app, need_t, val_int, val_str, val_bl, val_tup, val_lst, val_non, look_0, look_s, tru_bl, tru_int, both, one, ixl_0, ixl_1, ixl_2, ixl_3, ixt_0, ixt_1, ixt_2, ixt_3, add_i, sub_i, lt_i, le_i, gt_i, ge_i, len_l, len_t, abs_i, int_b, frz_int, frz_str, frz_bl, frz_tup, frz_lst, frz_non, set_same, len_set, set_s, set_0, bR_some, ret_ret, eq_str, ne_str, val_new, need_nil, newL_ok, norm_new, ret_next, p18, p8, List.map_cons, List.map_nil, List.replicate, List.cons_append, List.nil_append, Option.map_some, Bool.not_true, Bool.not_false, tagNB, lcT1_c0, lcT1_c1, lcT2_c0, keep]
        | of s ts => simp only [lcTurn, asg, wipeE, Tm.d, Tm.bn, x_nil, x_cons, x_k, x_v, x_g, x_tup, x_lst, x_bin, x_neg, x_cmp, x_chain, x_and, x_or, x_not, x_ite, x_int1, x_ix, x_sl, x_isi, x_call, x_callk, x_blt, x_mth, x_lc, x_tsnil, x_ts1, x_seq, x_rng1, x_enum, y_expr, y_ret, y_retN, y_set, y_unp, y_seti, y_star, y_ite, y_for, y_pass, y_cont, y_brk, y_nil, y_cons, y_aug, frzs2_c0, frzs1_c0, es2_c0, es1_c0, tup2_c0, tup1_c0, lst2_c0, lst1_c0, bin2_c0, bin1_c0, cmp2_c0, cmp1_c0, chain4_c0, chain3_c0, chain3_c1, chain2_c0, chain1_c0, and2_c0, and2_c1, and1_c0, or2_c0, or2_c1, or1_c0, tr2_c0, tr1_c0, not2_c0, not1_c0, ite1_c0, ite1_c1, ix2_c0, ix1_c0, sl3_c0, sl2_c0, sl1_c0, isi1_c0, call1_c0, callk1_c0, blt1_c0, mth2_c0, mth1_c0, lcT2_c0, lcT1_c0, lcT1_c1, lc1_c0, ts2_c0, seq1_c0, rng1_c0, enum1_c0, sret_c0, sset_c0, sunp2_c0, sunp_c0, sseti3_c0, sseti2_c0, sseti1_c0, sstar_c0, site_c0, site_c1, sfor_c0, saug2_c0, saug1_c0, saug_c0, neg1_ok, int1_ok, ts1_ok, enum2_ok, sexpr_ok, sseti4_ok, sthn_next, sthn_ret, sthn_brk, sthn_cont, frzs_nil, frzs_cons, norm_bl, norm_int, norm_str, norm_tup, norm_lst, norm_non, take_len0, take_set, take_app, need_t, val_int, val_str, val_bl, val_tup, val_lst, val_non, look_0, look_s, tru_bl, tru_int, both, one, ixl_0, ixl_1, ixl_2, ixl_3, ixt_0, ixt_1, ixt_2, ixt_3, add_i, sub_i, lt_i, le_i, gt_i, ge_i, len_l, len_t, abs_i, int_b, frz_int, frz_str, frz_bl, frz_tup, frz_lst, frz_non, set_same, len_set, set_s, set_0, bR_some, ret_ret, eq_str, ne_str, val_new, need_nil, newL_ok, norm_new, ret_next, p18, p8, List.map_cons, List.map_nil, List.replicate, List.cons_append, List.nil_append, Option.map_some, Bool.not_true, Bool.not_false, tagOB, lcT1_c0, lcT1_c1, lcT2_c0, keep]
        | bind s n t => simp only [lcTurn, asg, wipeE, Tm.d, Tm.bn, x_nil, x_cons, x_k, x_v, x_g, x_tup, x_lst, x_bin, x_neg, x_cmp, x_chain, x_and, x_or, x_not, x_ite, x_int1, x_ix, x_sl, x_isi, x_call, x_callk, x_blt, x_mth, x_lc, x_tsnil, x_ts1, x_seq, x_rng1, x_enum, y_expr, y_ret, y_retN, y_set, y_unp, y_seti, y_star, y_ite, y_for, y_pass, y_cont, y_brk, y_nil, y_cons, y_aug, frzs2_c0, frzs1_c0, es2_c0, es1_c0, tup2_c0, tup1_c0, lst2_c0, lst1_c0, bin2_c0, bin1_c0, cmp2_c0, cmp1_c0, chain4_c0, chain3_c0, chain3_c1, chain2_c0, chain1_c0, and2_c0, and2_c1, and1_c0, or2_c0, or2_c1, or1_c0, tr2_c0, tr1_c0, not2_c0, not1_c0, ite1_c0, ite1_c1, ix2_c0, ix1_c0, sl3_c0, sl2_c0, sl1_c0, isi1_c0, call1_c0, callk1_c0, blt1_c0, mth2_c0, mth1_c0, lcT2_c0, lcT1_c0, lcT1_c1, lc1_c0, ts2_c0, seq1_c0, rng1_c0, enum1_c0, sret_c0, sset_c0, sunp2_c0, sunp_c0, sseti3_c0, sseti2_c0, sseti1_c0, sstar_c0, site_c0, site_c1, sfor_c0, saug2_c0, saug1_c0, saug_c0, neg1_ok, int1_ok, ts1_ok, enum2_ok, sexpr_ok, sseti4_ok, sthn_next, sthn_ret, sthn_brk, sthn_cont, frzs_nil, frzs_cons, norm_bl, norm_int, norm_str, norm_tup, norm_lst, norm_non, take_len0, take_set, take_app, need_t, val_int, val_str, val_bl, val_tup, val_lst, val_non, look_0, look_s, tru_bl, tru_int, both, one, ixl_0, ixl_1, ixl_2, ixl_3, ixt_0, ixt_1, ixt_2, ixt_3, add_i, sub_i, lt_i, le_i, gt_i, ge_i, len_l, len_t, abs_i, int_b, frz_int, frz_str, frz_bl, frz_tup, frz_lst, frz_non, set_same, len_set, set_s, set_0, bR_some, ret_ret, eq_str, ne_str, val_new, need_nil, newL_ok, norm_new, ret_next, p18, p8, List.map_cons, List.map_nil, List.replicate, List.cons_append, List.nil_append, Option.map_some, Bool.not_true, Bool.not_false, tagBB, lcT1_c0, lcT1_c1, lcT2_c0, keep])
  obtain ⟨ys, S', ey, rfl, h2⟩ := key
  rw [List.nil_append, Nat.zero_add, List.length_map, List.take_length] at h2
  subst h2
  have lS : S'.length = (S ++ [wc] ++ [⟨.mu, .lst (init.map Tm.d)⟩] : Cells).length := by rw [← hlk]; simp
  have bnl : ∀ l : List Tm, (l.flatMap Tm.bn).length ≤ l.length := by
    intro l
    induction l with
    | nil => exact Nat.le_refl _
    | cons a r ih =>
      rw [List.flatMap_cons, List.length_append, List.length_cons]
      have : a.bn.length ≤ 1 := by cases a <;> simp [Tm.bn]
      omega
  have cp := comp_lk (m := (S ++ [wc]).length) (c := .lst (init.map Tm.d)) ey (by rw [List.length_map]; have := bnl init; omega) lS (by rw [← hlk]; simp)
  have fin : norm S.length (R.ok (.ref (S ++ [wc] ++ [⟨.mu, .lst (init.map Tm.d)⟩] : Cells).length) (S'.set (S ++ [wc]).length ⟨.mu, .lst (init.map Tm.d)⟩ ++ [⟨.mu, .lst ((init.flatMap Tm.bn).map .str)⟩])) = .ok (.ref S.length) (S ++ [⟨.mu, .lst ((init.flatMap Tm.bn).map .str)⟩]) := by
    rw [← hlk]
    have : (S ++ [wc] ++ [⟨.lk, .lst (init.map Tm.d)⟩] : Cells).set (S ++ [wc]).length ⟨.mu, .lst (init.map Tm.d)⟩ = S ++ [wc] ++ [⟨.mu, .lst (init.map Tm.d)⟩] := by simp
    rw [this]
    exact norm_2
  simp only [d_names_above, b_names_above, x_nil, x_cons, x_k, x_v, x_g, x_tup, x_lst, x_bin, x_neg, x_cmp, x_chain, x_and, x_or, x_not, x_ite, x_int1, x_ix, x_sl, x_isi, x_call, x_callk, x_blt, x_mth, x_lc, x_tsnil, x_ts1, x_seq, x_rng1, x_enum, y_expr, y_ret, y_retN, y_set, y_unp, y_seti, y_star, y_ite, y_for, y_pass, y_cont, y_brk, y_nil, y_cons, y_aug, frzs2_c0, frzs1_c0, es2_c0, es1_c0, tup2_c0, tup1_c0, lst2_c0, lst1_c0, bin2_c0, bin1_c0, cmp2_c0, cmp1_c0, chain4_c0, chain3_c0, chain3_c1, chain2_c0, chain1_c0, and2_c0, and2_c1, and1_c0, or2_c0, or2_c1, or1_c0, tr2_c0, tr1_c0, not2_c0, not1_c0, ite1_c0, ite1_c1, ix2_c0, ix1_c0, sl3_c0, sl2_c0, sl1_c0, isi1_c0, call1_c0, callk1_c0, blt1_c0, mth2_c0, mth1_c0, lcT2_c0, lcT1_c0, lcT1_c1, lc1_c0, ts2_c0, seq1_c0, rng1_c0, enum1_c0, sret_c0, sset_c0, sunp2_c0, sunp_c0, sseti3_c0, sseti2_c0, sseti1_c0, sstar_c0, site_c0, site_c1, sfor_c0, saug2_c0, saug1_c0, saug_c0, neg1_ok, int1_ok, ts1_ok, enum2_ok, sexpr_ok, sseti4_ok, sthn_next, sthn_ret, sthn_brk, sthn_cont, frzs_nil, frzs_cons, norm_bl, norm_int, norm_str, norm_tup, norm_lst, norm_non, take_len0, take_set, take_app, need_t, val_int, val_str, val_bl, val_tup, val_lst, val_non, look_0, look_s, tru_bl, tru_int, both, one, ixl_0, ixl_1, ixl_2, ixl_3, ixt_0, ixt_1, ixt_2, ixt_3, add_i, sub_i, lt_i, le_i, gt_i, ge_i, len_l, len_t, abs_i, int_b, frz_int, frz_str, frz_bl, frz_tup, frz_lst, frz_non, set_same, len_set, set_s, set_0, bR_some, ret_ret, eq_str, ne_str, val_new, need_nil, newL_ok, norm_new, ret_next, p18, p8, List.map_cons, List.map_nil, List.replicate, List.cons_append, List.nil_append, Option.map_some, Bool.not_true, Bool.not_false, ew, norm_new, st, ho, cp, fin]

/-! ### all places -/
structure Ent where
  path : List Nat
  ws : List Tm
  u : Tm
def Ent.ab (e : Ent) : List Str := e.ws.dropLast.flatMap Tm.bn
def Ent.d (e : Ent) : D := .tup [.tup (e.path.map fun (i : Nat) => D.int i), e.u.d, .lst (e.ab.map .str)]
structure EntOk (t : Tm) (e : Ent) : Prop where
  way : Way t e.path e.ws
  last : e.ws.getLast? = some e.u
  ok : e.u.ok 11
  h : e.u.h + e.path.length ≤ 12
  n : e.u.n ≤ 60
  ab : ∀ w ∈ e.ab, Wd 11 w
def Ent.kid (e : Ent) (j : Nat) (v : Tm) : Ent := ⟨e.path ++ [j], e.ws ++ [v], v⟩
theorem kid_ab {t : Tm} {e : Ent} (E : EntOk t e) {j : Nat} {v : Tm} : (e.kid j v).ab = e.ab ++ e.u.bn := by
  show ((e.ws ++ [v]).dropLast).flatMap Tm.bn = e.ws.dropLast.flatMap Tm.bn ++ e.u.bn
  rw [List.dropLast_concat]
  conv => lhs; rw [way_end E.way E.last]
  rw [List.flatMap_append]
  simp
theorem kid_ok {t : Tm} {e : Ent} (E : EntOk t e) {j : Nat} {v : Tm} (hv : e.u.kids[j]? = some v) : EntOk t (e.kid j v) := by
  have hm : v ∈ e.u.kids := List.mem_of_getElem? hv
  have h1 := ns_mem hm
  have h2 := hs_mem hm
  have h3 := kids_ns e.u
  have h4 := kids_h e.u
  have h5 := E.h
  have h6 := E.n
  refine ⟨E.way.more E.last hv, by show (e.ws ++ [v]).getLast? = some v; simp, oks_iff.mp (kids_ok E.ok) v hm, ?_, ?_, fun w hw => ?_⟩
  · show v.h + (e.path ++ [j]).length ≤ 12
    rw [List.length_append, List.length_singleton]; omega
  · show v.n ≤ 60
    omega
  · rw [kid_ab E] at hw
    rcases List.mem_append.mp hw with z | z
    · exact E.ab w z
    · exact bn_ok E.ok w z
theorem nats_dat : ∀ l : List Nat, D.dats (l.map fun (i : Nat) => D.int i) = true
  | [] => rfl
  | _ :: r => by show (true && D.dats (r.map fun (i : Nat) => D.int i)) = true; rw [nats_dat r]; rfl
theorem strs_sms {m : Nat} : ∀ {l : List Str}, (∀ w ∈ l, Wd m w) → Sms (l.map .str)
  | [], _ => .nil
  | w :: r, h => .cons (.wd (h w List.mem_cons_self)) (strs_sms fun v hv => h v (List.mem_cons_of_mem _ hv))
theorem ent_dat {t : Tm} {e : Ent} (E : EntOk t e) : e.d.dat = true := by
  show (D.dats (e.path.map fun (i : Nat) => D.int i) && (e.u.d.dat && (D.dats (e.ab.map .str) && true))) = true
  rw [nats_dat, (tm_sm E.ok).dat, (strs_sms E.ab).dat]; rfl
theorem ents_dat {t : Tm} : ∀ {l : List Ent}, (∀ e ∈ l, EntOk t e) → D.dats (l.map Ent.d) = true
  | [], _ => rfl
  | e :: r, h => by
    show (e.d.dat && D.dats (r.map Ent.d)) = true
    rw [ent_dat (h e List.mem_cons_self), ents_dat fun v hv => h v (List.mem_cons_of_mem _ hv)]; rfl
theorem ents_ne {t : Tm} {l : List Ent} (h : ∀ e ∈ l, EntOk t e) : cmpV .ne (.lst (l.map Ent.d)) (.lst []) = some (!l.isEmpty) := by
  show (eqV _ _).map _ = _
  unfold eqV
  have e1 : D.dat (.lst (l.map Ent.d)) = true := ents_dat h
  have e3 : D.dat (.lst []) = true := rfl
  have e4 : D.dep (.lst []) ≤ 64 := by decide
  rw [if_neg (by simp [D.flat]), if_pos (by simp [e1, e3, e4])]
  cases l with
  | nil => rfl
  | cons _ _ => rfl
section
variable {S L : Cells} {a b c : Cell} {n2 : Nat}
theorem c_g1 : (S ++ [a] ++ [b] ++ L)[S.length]? = some a := by simp
theorem c_s1 : (S ++ [a] ++ [b] ++ L).set S.length c = S ++ [c] ++ [b] ++ L := by simp
theorem c_g2 (h : n2 = S.length + 1) : (S ++ [a] ++ [b] ++ L)[n2]? = some b := by subst h; simp
theorem c_s2 (h : n2 = S.length + 1) : (S ++ [a] ++ [b] ++ L).set n2 c = S ++ [a] ++ [c] ++ L := by subst h; simp
end
theorem enum_get {xs : List D} {i : Nat} {x : D} (h : (enumD xs)[i]? = some x) : ∃ y, xs[i]? = some y ∧ x = .tup [.int i, y] := by
  have hi : i < xs.length := by
    have := (List.getElem?_eq_some_iff.mp h).1
    simpa [enumD] using this
  refine ⟨xs[i], List.getElem?_eq_getElem hi, ?_⟩
  simp only [enumD, List.getElem?_map, List.getElem?_range hi, Option.map_some, List.getD_eq_getElem?_getD, List.getElem?_eq_getElem hi, Option.getD_some] at h
  exact (Option.some.inj h).symm
theorem enum_len {xs : List D} : (enumD xs).length = xs.length := by simp [enumD]
def kidEnts (e : Ent) (k : Nat) : List Ent := (e.u.kids.zipIdx.take k).map fun p => e.kid p.2 p.1
def sFor : Sxs := (.cons (.expr (.mth .append (.v 1) (.cons (.tup (.cons (.bin .add (.v 3) (.tup (.cons (.v 7) .nil))) (.cons (.v 8) (.cons (.v 6) .nil)))) .nil)))
    .nil)
def sWhile : Sxs := (.cons (.unp [3, 4, 5] (.mth .pop0 (.v 1) (.cons (.k (.int 0)) .nil)))
    (.cons (.expr (.mth .append (.v 2) (.cons (.tup (.cons (.v 3) (.cons (.v 4) (.cons (.v 5) .nil)))) .nil)))
    (.cons (.set 6 (.ite (.cmp .eq (.ix (.v 4) (.k (.int 0))) (.k (.str "bind"))) (.bin .add (.v 5) (.lst (.cons (.ix (.v 4) (.k (.int 2))) .nil))) (.v 5)))
    (.cons (.for (.tup [7, 8]) (.enum (.call "_law_inside" (.cons (.v 4) .nil)))
    sFor)
    .nil))))
theorem s_split : b__law_spots = (.cons (.set 1 (.lst (.cons (.tup (.cons (.tup .nil) (.cons (.v 0) (.cons (.lst .nil) .nil)))) .nil)))
    (.cons (.set 2 (.lst .nil))
    (.cons (.while (.cmp .ne (.v 1) (.lst .nil))
    sWhile)
    (.cons (.ret (.v 2))
    .nil)))) := rfl
/-- the slots of the queue's loop -/
def SR (t : Tm) (n n2 : Nat) (ρ : VS.Env) : Prop := ∃ o3 o4 o5 o6 o7 o8, ρ = [some t.d, some (.ref n), some (.ref n2), o3, o4, o5, o6, o7, o8]
def kidsOf (e : Ent) : List Ent := e.u.kids.zipIdx.map fun p => e.kid p.2 p.1
/-- the queue's turn at an entry -/
theorem spot_turn {k W : Nat} {S L : Cells} {n2 : Nat} (hn2 : n2 = S.length + 1) {t : Tm} {e : Ent} {qs fs : List Ent} {ρ : VS.Env} (R0 : SR t S.length n2 ρ) (E : EntOk t e) (hf : fs.length ≤ 100) (hq : qs.length ≤ 100) :
    ∃ ρ' L', evSs (callF T.prog W (k + 1)) W sWhile ρ (S ++ [⟨.mu, .lst ((e :: qs).map Ent.d)⟩] ++ [⟨.mu, .lst (fs.map Ent.d)⟩] ++ L) =
      .next ρ' (S ++ [⟨.mu, .lst ((qs ++ kidsOf e).map Ent.d)⟩] ++ [⟨.mu, .lst ((fs ++ [e]).map Ent.d)⟩] ++ L') ∧ SR t S.length n2 ρ' := by
  obtain ⟨o3, o4, o5, o6, o7, o8, rfl⟩ := R0
  have po := pop_ok (S := S ++ [⟨.mu, .lst ((e :: qs).map Ent.d)⟩] ++ [⟨.mu, .lst (fs.map Ent.d)⟩] ++ L) (m := S.length) (x := e.d) (xs := qs.map Ent.d) c_g1
  rw [c_s1, List.map_cons] at po
  have tA : ∀ {a b a' b' : Cell} {L : Cells}, (S ++ [a] ++ [b] ++ L).take (S ++ [a'] ++ [b'] ++ L).length = S ++ [a] ++ [b] ++ L := fun {a b a' b' L} => tk_all (by simp)
  have ft := fun (t : Tm) (S0 : Cells) => show frz t.d S0 = .ok t.d S0 by cases t <;> rw [Tm.d] <;> rfl
  have ap := append_ok (S := S ++ [⟨.mu, .lst (qs.map Ent.d)⟩] ++ [⟨.mu, .lst (fs.map Ent.d)⟩] ++ L) (m := n2) (x := .tup [.tup (e.path.map fun (i : Nat) => D.int i), e.u.d, .lst (e.ab.map .str)]) (xs := fs.map Ent.d) (c_g2 hn2) rfl (by rw [List.length_map]; omega)
  rw [c_s2 hn2] at ap
  have em : fs.map Ent.d ++ [.tup [.tup (e.path.map fun (i : Nat) => D.int i), e.u.d, .lst (e.ab.map .str)]] = (fs ++ [e]).map Ent.d := by simp [Ent.d]
  rw [em] at ap
  have nE : ∀ {n : Nat} {S0 : Cells}, norm n (.ok e.d S0) = .ok e.d (S0.take n) := fun {n S0} => rfl
  have un : ∀ ρ S0, sunp [3, 4, 5] ρ (.ok e.d S0) = sunp2 S0 (asgs [3, 4, 5] [.tup (e.path.map fun (i : Nat) => D.int i), e.u.d, .lst (e.ab.map .str)] ρ) := fun _ _ => rfl
  have ins := fun S0 => inside (k := k) (W := W) (S := S0) e.u
  have hn := fun (S0 : Cells) xs => holdL_new (xs := xs) (S := S0) (S' := S0) rfl
  have fl0 : enumD [] = [] := rfl
  have leaf : ∀ s tg : Str, (tg == Str.ofString "bind") = false → e.u.d = .tup [.str tg, .str s] → e.u.kids = [] → ∃ ρ' L', evSs (callF T.prog W (k + 1)) W sWhile [some t.d, some (.ref S.length), some (.ref n2), o3, o4, o5, o6, o7, o8] (S ++ [⟨.mu, .lst ((e :: qs).map Ent.d)⟩] ++ [⟨.mu, .lst (fs.map Ent.d)⟩] ++ L) =
      .next ρ' (S ++ [⟨.mu, .lst ((qs ++ kidsOf e).map Ent.d)⟩] ++ [⟨.mu, .lst ((fs ++ [e]).map Ent.d)⟩] ++ L') ∧ SR t S.length n2 ρ' := by
    intro s tg htg hud hk
    rw [hud] at ap un
    have ins0 := fun S0 => ins S0
    rw [hk, hud] at ins0
    have kz : qs ++ kidsOf e = qs := by unfold kidsOf; rw [hk]; simp
    rw [kz]
    refine ⟨[some t.d, some (.ref S.length), some (.ref n2), some (.tup (e.path.map fun (i : Nat) => D.int i)), some (.tup [.str tg, .str s]), some (.lst (e.ab.map .str)), some (.lst (e.ab.map .str)), o7, o8], L, ?_, ⟨_, _, _, _, _, _, rfl⟩⟩
    simp only [sWhile, x_nil, x_cons, x_k, x_v, x_g, x_tup, x_lst, x_bin, x_neg, x_cmp, x_chain, x_and, x_or, x_not, x_ite, x_int1, x_ix, x_sl, x_isi, x_call, x_callk, x_blt, x_mth, x_lc, x_tsnil, x_ts1, x_seq, x_rng1, x_enum, y_expr, y_ret, y_retN, y_set, y_unp, y_seti, y_star, y_ite, y_for, y_pass, y_cont, y_brk, y_nil, y_cons, y_aug, frzs2_c0, frzs1_c0, es2_c0, es1_c0, tup2_c0, tup1_c0, lst2_c0, lst1_c0, bin2_c0, bin1_c0, cmp2_c0, cmp1_c0, chain4_c0, chain3_c0, chain3_c1, chain2_c0, chain1_c0, and2_c0, and2_c1, and1_c0, or2_c0, or2_c1, or1_c0, tr2_c0, tr1_c0, not2_c0, not1_c0, ite1_c0, ite1_c1, ix2_c0, ix1_c0, sl3_c0, sl2_c0, sl1_c0, isi1_c0, call1_c0, callk1_c0, blt1_c0, mth2_c0, mth1_c0, lcT2_c0, lcT1_c0, lcT1_c1, lc1_c0, ts2_c0, seq1_c0, rng1_c0, enum1_c0, sret_c0, sset_c0, sunp2_c0, sunp_c0, sseti3_c0, sseti2_c0, sseti1_c0, sstar_c0, site_c0, site_c1, sfor_c0, saug2_c0, saug1_c0, saug_c0, neg1_ok, int1_ok, ts1_ok, enum2_ok, sexpr_ok, sseti4_ok, sthn_next, sthn_ret, sthn_brk, sthn_cont, frzs_nil, frzs_cons, norm_bl, norm_int, norm_str, norm_tup, norm_lst, norm_non, take_len0, take_set, take_app, need_t, val_int, val_str, val_bl, val_tup, val_lst, val_non, look_0, look_s, tru_bl, tru_int, both, one, ixl_0, ixl_1, ixl_2, ixl_3, ixt_0, ixt_1, ixt_2, ixt_3, add_i, sub_i, lt_i, le_i, gt_i, ge_i, len_l, len_t, abs_i, int_b, frz_int, frz_str, frz_bl, frz_tup, frz_lst, frz_non, set_same, len_set, set_s, set_0, bR_some, ret_ret, eq_str, ne_str, val_new, need_nil, newL_ok, norm_new, ret_next, p18, p8, List.map_cons, List.map_nil, List.replicate, List.cons_append, List.nil_append, Option.map_some, Bool.not_true, Bool.not_false, po, nE, un, asgs, tA, need3, ap, htg, ins0, Tm.ds, norm_new, hn, Walked.map, fl0, forE_0, forT]
  cases hu : e.u with
  | hole s => exact leaf s _ tagHB (by rw [hu, Tm.d]) (by rw [hu, Tm.kids])
  | name s => exact leaf s _ tagNB (by rw [hu, Tm.d]) (by rw [hu, Tm.kids])
  | of w ts =>
    have hud : e.u.d = .tup [.str "of", .str w, .tup (Tm.ds ts)] := by rw [hu, Tm.d]
    have hk : e.u.kids = ts := by rw [hu, Tm.kids]
    have hbn : e.u.bn = [] := by rw [hu]; rfl
    rw [hud] at ap un
    have ins0 := fun S0 => ins S0
    rw [hk, hud] at ins0
    have ng : Tm.ns ts ≤ 60 := by have := E.n; rw [hu, Tm.n] at this; omega
    have lts : ts.length ≤ 60 := by
      have : ∀ l : List Tm, l.length ≤ Tm.ns l := by
        intro l
        induction l with
        | nil => exact Nat.zero_le _
        | cons a r ih => rw [Tm.ns, List.length_cons]; have := n_pos a; omega
      exact Nat.le_trans (this ts) ng
    have key := for_inv (f := VS.forTurn (callF T.prog W (k + 1)) W (.tup [7, 8]) sFor)
      (fun i ρ S' => S' = S ++ [⟨.mu, .lst ((qs ++ ((ts.zipIdx.take i).map fun p => e.kid p.2 p.1)).map Ent.d)⟩] ++ [⟨.mu, .lst ((fs ++ [e]).map Ent.d)⟩] ++ L ∧
        ∃ o7 o8, ρ = [some t.d, some (.ref S.length), some (.ref n2), some (.tup (e.path.map fun (i : Nat) => D.int i)), some (.tup [.str "of", .str w, .tup (Tm.ds ts)]), some (.lst (e.ab.map .str)), some (.lst (e.ab.map .str)), o7, o8])
      (xs := enumD (Tm.ds ts)) (ρ := [some t.d, some (.ref S.length), some (.ref n2), some (.tup (e.path.map fun (i : Nat) => D.int i)), some (.tup [.str "of", .str w, .tup (Tm.ds ts)]), some (.lst (e.ab.map .str)), some (.lst (e.ab.map .str)), o7, o8])
      (S := S ++ [⟨.mu, .lst (qs.map Ent.d)⟩] ++ [⟨.mu, .lst ((fs ++ [e]).map Ent.d)⟩] ++ L) (i0 := 0) ⟨by simp, _, _, rfl⟩ (by
      rintro i x ρ S' hx ⟨rfl, z7, z8, rfl⟩
      rw [Nat.zero_add]
      obtain ⟨y, hy, rfl⟩ := enum_get hx
      rw [ds_map, List.getElem?_map] at hy
      cases hj : ts[i]? with
      | none => rw [hj] at hy; cases hy
      | some v =>
        rw [hj] at hy
        cases hy
        have hi := (List.getElem?_eq_some_iff.mp hj).1
        have tkn : ts.zipIdx.take (i + 1) = ts.zipIdx.take i ++ [(v, i)] := by
          rw [List.take_add_one, List.getElem?_zipIdx, hj]; simp
        have kd : (e.kid i v).d = .tup [.tup ((e.path.map fun (i : Nat) => D.int i) ++ [.int i]), v.d, .lst (e.ab.map .str)] := by
          show D.tup [.tup ((e.path ++ [i]).map fun (i : Nat) => D.int i), v.d, .lst ((e.kid i v).ab.map .str)] = _
          rw [kid_ab E, hbn, List.append_nil, List.map_append]; rfl
        have ct : ∀ S0, binV .add (.tup (e.path.map fun (i : Nat) => D.int i)) (.tup [.int i]) S0 = .ok (.tup ((e.path.map fun (i : Nat) => D.int i) ++ [.int i])) S0 := fun S0 => by
          show R.need (decide (_ ≤ line)) _ = _
          rw [decide_eq_true (by have := E.h; simp; unfold line; omega)]
          rfl
        have ap2 := append_ok (S := S ++ [⟨.mu, .lst ((qs ++ ((ts.zipIdx.take i).map fun p => e.kid p.2 p.1)).map Ent.d)⟩] ++ [⟨.mu, .lst ((fs ++ [e]).map Ent.d)⟩] ++ L) (m := S.length) (x := (e.kid i v).d) (xs := (qs ++ ((ts.zipIdx.take i).map fun p => e.kid p.2 p.1)).map Ent.d) c_g1 rfl (by simp; omega)
        rw [c_s1] at ap2
        have em2 : (qs ++ ((ts.zipIdx.take i).map fun p => e.kid p.2 p.1)).map Ent.d ++ [(e.kid i v).d] = (qs ++ ((ts.zipIdx.take (i + 1)).map fun p => e.kid p.2 p.1)).map Ent.d := by rw [tkn]; simp
        rw [em2, kd] at ap2
        refine ⟨_, S ++ [⟨.mu, .lst ((qs ++ ((ts.zipIdx.take (i + 1)).map fun p => e.kid p.2 p.1)).map Ent.d)⟩] ++ [⟨.mu, .lst ((fs ++ [e]).map Ent.d)⟩] ++ L, .inl ?_, rfl, some (.int i), some v.d, rfl⟩
        simp only [VS.forTurn, asg, asgs, sFor, x_nil, x_cons, x_k, x_v, x_g, x_tup, x_lst, x_bin, x_neg, x_cmp, x_chain, x_and, x_or, x_not, x_ite, x_int1, x_ix, x_sl, x_isi, x_call, x_callk, x_blt, x_mth, x_lc, x_tsnil, x_ts1, x_seq, x_rng1, x_enum, y_expr, y_ret, y_retN, y_set, y_unp, y_seti, y_star, y_ite, y_for, y_pass, y_cont, y_brk, y_nil, y_cons, y_aug, frzs2_c0, frzs1_c0, es2_c0, es1_c0, tup2_c0, tup1_c0, lst2_c0, lst1_c0, bin2_c0, bin1_c0, cmp2_c0, cmp1_c0, chain4_c0, chain3_c0, chain3_c1, chain2_c0, chain1_c0, and2_c0, and2_c1, and1_c0, or2_c0, or2_c1, or1_c0, tr2_c0, tr1_c0, not2_c0, not1_c0, ite1_c0, ite1_c1, ix2_c0, ix1_c0, sl3_c0, sl2_c0, sl1_c0, isi1_c0, call1_c0, callk1_c0, blt1_c0, mth2_c0, mth1_c0, lcT2_c0, lcT1_c0, lcT1_c1, lc1_c0, ts2_c0, seq1_c0, rng1_c0, enum1_c0, sret_c0, sset_c0, sunp2_c0, sunp_c0, sseti3_c0, sseti2_c0, sseti1_c0, sstar_c0, site_c0, site_c1, sfor_c0, saug2_c0, saug1_c0, saug_c0, neg1_ok, int1_ok, ts1_ok, enum2_ok, sexpr_ok, sseti4_ok, sthn_next, sthn_ret, sthn_brk, sthn_cont, frzs_nil, frzs_cons, norm_bl, norm_int, norm_str, norm_tup, norm_lst, norm_non, take_len0, take_set, take_app, need_t, val_int, val_str, val_bl, val_tup, val_lst, val_non, look_0, look_s, tru_bl, tru_int, both, one, ixl_0, ixl_1, ixl_2, ixl_3, ixt_0, ixt_1, ixt_2, ixt_3, add_i, sub_i, lt_i, le_i, gt_i, ge_i, len_l, len_t, abs_i, int_b, frz_int, frz_str, frz_bl, frz_tup, frz_lst, frz_non, set_same, len_set, set_s, set_0, bR_some, ret_ret, eq_str, ne_str, val_new, need_nil, newL_ok, norm_new, ret_next, p18, p8, List.map_cons, List.map_nil, List.replicate, List.cons_append, List.nil_append, Option.map_some, Bool.not_true, Bool.not_false, need1, need3, ct, ap2, tA, ft])
    obtain ⟨ρ', S', ef, rfl, z7, z8, rfl⟩ := key
    have hall : (ts.zipIdx.take (0 + (enumD (Tm.ds ts)).length)).map (fun p => e.kid p.2 p.1) = kidsOf e := by
      unfold kidsOf
      rw [hk, List.take_of_length_le (by simp [enum_len, ds_map])]
    rw [hall] at ef
    refine ⟨[some t.d, some (.ref S.length), some (.ref n2), some (.tup (e.path.map fun (i : Nat) => D.int i)), some (.tup [.str "of", .str w, .tup (Tm.ds ts)]), some (.lst (e.ab.map .str)), some (.lst (e.ab.map .str)), z7, z8], L, ?_, ⟨_, _, _, _, _, _, rfl⟩⟩
    simp only [sWhile, x_nil, x_cons, x_k, x_v, x_g, x_tup, x_lst, x_bin, x_neg, x_cmp, x_chain, x_and, x_or, x_not, x_ite, x_int1, x_ix, x_sl, x_isi, x_call, x_callk, x_blt, x_mth, x_lc, x_tsnil, x_ts1, x_seq, x_rng1, x_enum, y_expr, y_ret, y_retN, y_set, y_unp, y_seti, y_star, y_ite, y_for, y_pass, y_cont, y_brk, y_nil, y_cons, y_aug, frzs2_c0, frzs1_c0, es2_c0, es1_c0, tup2_c0, tup1_c0, lst2_c0, lst1_c0, bin2_c0, bin1_c0, cmp2_c0, cmp1_c0, chain4_c0, chain3_c0, chain3_c1, chain2_c0, chain1_c0, and2_c0, and2_c1, and1_c0, or2_c0, or2_c1, or1_c0, tr2_c0, tr1_c0, not2_c0, not1_c0, ite1_c0, ite1_c1, ix2_c0, ix1_c0, sl3_c0, sl2_c0, sl1_c0, isi1_c0, call1_c0, callk1_c0, blt1_c0, mth2_c0, mth1_c0, lcT2_c0, lcT1_c0, lcT1_c1, lc1_c0, ts2_c0, seq1_c0, rng1_c0, enum1_c0, sret_c0, sset_c0, sunp2_c0, sunp_c0, sseti3_c0, sseti2_c0, sseti1_c0, sstar_c0, site_c0, site_c1, sfor_c0, saug2_c0, saug1_c0, saug_c0, neg1_ok, int1_ok, ts1_ok, enum2_ok, sexpr_ok, sseti4_ok, sthn_next, sthn_ret, sthn_brk, sthn_cont, frzs_nil, frzs_cons, norm_bl, norm_int, norm_str, norm_tup, norm_lst, norm_non, take_len0, take_set, take_app, need_t, val_int, val_str, val_bl, val_tup, val_lst, val_non, look_0, look_s, tru_bl, tru_int, both, one, ixl_0, ixl_1, ixl_2, ixl_3, ixt_0, ixt_1, ixt_2, ixt_3, add_i, sub_i, lt_i, le_i, gt_i, ge_i, len_l, len_t, abs_i, int_b, frz_int, frz_str, frz_bl, frz_tup, frz_lst, frz_non, set_same, len_set, set_s, set_0, bR_some, ret_ret, eq_str, ne_str, val_new, need_nil, newL_ok, norm_new, ret_next, p18, p8, List.map_cons, List.map_nil, List.replicate, List.cons_append, List.nil_append, Option.map_some, Bool.not_true, Bool.not_false, po, nE, un, asgs, tA, need3, ap, tagOB, ins0, norm_new, hn, Walked.map, forE_0, ef]
  | bind w n v =>
    have hud : e.u.d = .tup [.str "bind", .str w, .str n, v.d] := by rw [hu, Tm.d]
    have hk : e.u.kids = [v] := by rw [hu, Tm.kids]
    have hbn : e.u.bn = [n] := by rw [hu]; rfl
    rw [hud] at ap un
    have ins0 := fun S0 => ins S0
    rw [hk, hud] at ins0
    have kd : (e.kid 0 v).d = .tup [.tup ((e.path.map fun (i : Nat) => D.int i) ++ [.int 0]), v.d, .lst ((e.ab ++ [n]).map .str)] := by
      show D.tup [.tup ((e.path ++ [0]).map fun (i : Nat) => D.int i), v.d, .lst ((e.kid 0 v).ab.map .str)] = _
      rw [kid_ab E, hbn, List.map_append]; rfl
    have ct : ∀ S0, binV .add (.tup (e.path.map fun (i : Nat) => D.int i)) (.tup [.int 0]) S0 = .ok (.tup ((e.path.map fun (i : Nat) => D.int i) ++ [.int 0])) S0 := fun S0 => by
      show R.need (decide (_ ≤ line)) _ = _
      rw [decide_eq_true (by have := E.h; simp; unfold line; omega)]
      rfl
    generalize hSt : (S ++ [⟨.mu, .lst (qs.map Ent.d)⟩] ++ [⟨.mu, .lst ((fs ++ [e]).map Ent.d)⟩] ++ L : Cells) = St at ap
    have abl : e.ab.length ≤ 100 := by
      have bnl : ∀ l : List Tm, (l.flatMap Tm.bn).length ≤ l.length := by
        intro l
        induction l with
        | nil => exact Nat.le_refl _
        | cons a r ih =>
          rw [List.flatMap_cons, List.length_append, List.length_cons]
          have : a.bn.length ≤ 1 := by cases a <;> simp [Tm.bn]
          omega
      have h1 := bnl e.ws.dropLast
      have h2 := E.way.len
      have h3 := E.h
      rw [List.length_dropLast] at h1
      show (e.ws.dropLast.flatMap Tm.bn).length ≤ 100
      omega
    have ca := fun S0 => cat_lst (S := S0) (xs := e.ab.map D.str) (ys := [.str n]) (by simp; omega)
    have cm : e.ab.map D.str ++ [D.str n] = (e.ab ++ [n]).map .str := by simp
    have tS : ∀ {c : Cell}, (St ++ [c]).take St.length = St := fun {c} => List.take_left
    have tS2 : ∀ {a b : Cell}, (St ++ [a]).take (St ++ [b]).length = St ++ [a] := fun {a b} => tk_all (by simp)
    have tL : St.length = (S ++ [⟨.mu, .lst ((e :: qs).map Ent.d)⟩] ++ [⟨.mu, .lst (fs.map Ent.d)⟩] ++ L : Cells).length := by rw [← hSt]; simp
    have tP : St.take (S ++ [⟨.mu, .lst (qs.map Ent.d)⟩] ++ [⟨.mu, .lst (fs.map Ent.d)⟩] ++ L : Cells).length = St := tk_all (by rw [← hSt]; simp)
    have fe : ∀ {xs : List D}, frz (.ref St.length) (St ++ [⟨.mu, .lst xs⟩]) = .ok (.lst xs) (St ++ [⟨.fz, .lst xs⟩]) := fun {xs} => frz_end rfl
    have ap2 := append_ok (S := S ++ [⟨.mu, .lst (qs.map Ent.d)⟩] ++ [⟨.mu, .lst ((fs ++ [e]).map Ent.d)⟩] ++ (L ++ [⟨.fz, .lst ((e.ab ++ [n]).map .str)⟩])) (m := S.length) (x := (e.kid 0 v).d) (xs := qs.map Ent.d) c_g1 rfl (by simp; omega)
    rw [c_s1] at ap2
    have ko : kidsOf e = [e.kid 0 v] := by unfold kidsOf; rw [hk]; rfl
    have em2 : qs.map Ent.d ++ [(e.kid 0 v).d] = (qs ++ kidsOf e).map Ent.d := by rw [ko]; simp
    rw [em2, kd, ← List.append_assoc, hSt, ← List.append_assoc] at ap2
    have fl1 : enumD [v.d] = [.tup [.int 0, v.d]] := rfl
    have tF : ∀ {a b c d : Cell}, (S ++ [a] ++ [b] ++ L ++ [c]).take (St ++ [d]).length = S ++ [a] ++ [b] ++ L ++ [c] := fun {a b c d} => tk_all (by rw [← hSt]; simp)
    refine ⟨[some t.d, some (.ref S.length), some (.ref n2), some (.tup (e.path.map fun (i : Nat) => D.int i)), some (.tup [.str "bind", .str w, .str n, v.d]), some (.lst (e.ab.map .str)), some (.ref St.length), some (.int 0), some v.d], L ++ [⟨.fz, .lst ((e.ab ++ [n]).map .str)⟩], ?_, ⟨_, _, _, _, _, _, rfl⟩⟩
    rw [← List.append_assoc]
    simp only [sWhile, x_nil, x_cons, x_k, x_v, x_g, x_tup, x_lst, x_bin, x_neg, x_cmp, x_chain, x_and, x_or, x_not, x_ite, x_int1, x_ix, x_sl, x_isi, x_call, x_callk, x_blt, x_mth, x_lc, x_tsnil, x_ts1, x_seq, x_rng1, x_enum, y_expr, y_ret, y_retN, y_set, y_unp, y_seti, y_star, y_ite, y_for, y_pass, y_cont, y_brk, y_nil, y_cons, y_aug, frzs2_c0, frzs1_c0, es2_c0, es1_c0, tup2_c0, tup1_c0, lst2_c0, lst1_c0, bin2_c0, bin1_c0, cmp2_c0, cmp1_c0, chain4_c0, chain3_c0, chain3_c1, chain2_c0, chain1_c0, and2_c0, and2_c1, and1_c0, or2_c0, or2_c1, or1_c0, tr2_c0, tr1_c0, not2_c0, not1_c0, ite1_c0, ite1_c1, ix2_c0, ix1_c0, sl3_c0, sl2_c0, sl1_c0, isi1_c0, call1_c0, callk1_c0, blt1_c0, mth2_c0, mth1_c0, lcT2_c0, lcT1_c0, lcT1_c1, lc1_c0, ts2_c0, seq1_c0, rng1_c0, enum1_c0, sret_c0, sset_c0, sunp2_c0, sunp_c0, sseti3_c0, sseti2_c0, sseti1_c0, sstar_c0, site_c0, site_c1, sfor_c0, saug2_c0, saug1_c0, saug_c0, neg1_ok, int1_ok, ts1_ok, enum2_ok, sexpr_ok, sseti4_ok, sthn_next, sthn_ret, sthn_brk, sthn_cont, frzs_nil, frzs_cons, norm_bl, norm_int, norm_str, norm_tup, norm_lst, norm_non, take_len0, take_set, take_app, need_t, val_int, val_str, val_bl, val_tup, val_lst, val_non, look_0, look_s, tru_bl, tru_int, both, one, ixl_0, ixl_1, ixl_2, ixl_3, ixt_0, ixt_1, ixt_2, ixt_3, add_i, sub_i, lt_i, le_i, gt_i, ge_i, len_l, len_t, abs_i, int_b, frz_int, frz_str, frz_bl, frz_tup, frz_lst, frz_non, set_same, len_set, set_s, set_0, bR_some, ret_ret, eq_str, ne_str, val_new, need_nil, newL_ok, norm_new, ret_next, p18, p8, List.map_cons, List.map_nil, List.replicate, List.cons_append, List.nil_append, Option.map_some, Bool.not_true, Bool.not_false, po, nE, un, asgs, tA, need3, need1, ap, tP, tagBB, ins0, Tm.ds, norm_new, hn, Walked.map, forE_0, forT, fl1, VS.forTurn, asg, sFor, ca, cm, norm_1, tS, tS2, fe, ct, ap2, ft, tF]

theorem kids_u (e : Ent) : (kidsOf e).map (·.u) = e.u.kids := by
  unfold kidsOf
  rw [List.map_map]
  show (e.u.kids.zipIdx).map (fun p => p.1) = _
  exact List.zipIdx_map_fst ..
theorem len_ns : ∀ l : List Tm, l.length ≤ Tm.ns l
  | [] => Nat.zero_le _
  | a :: r => by rw [Tm.ns, List.length_cons]; have := n_pos a; have := len_ns r; omega
theorem spots {k : Nat} {S : Cells} {t : Tm} (h1 : t.ok 11) (h2 : t.h ≤ 12) (h3 : t.n ≤ 60) : ∃ fs : List Ent, callF T.prog 1000 (k + 2) "_law_spots" [t.d] S = .ok (.ref S.length) (S ++ [⟨.mu, .lst (fs.map Ent.d)⟩]) ∧ (∀ e ∈ fs, EntOk t e) ∧ fs.length ≤ 60 := by
  have e := call_def (T := T) ok (d := d__law_spots) (by unfold T; simp) (k := k + 1) (W := 1000) (ds := [t.d]) (S := S) rfl
  rw [show d__law_spots.x = "_law_spots" from rfl] at e
  rw [e]
  have ft := fun (S0 : Cells) => show frz t.d S0 = .ok t.d S0 by cases t <;> rw [Tm.d] <;> rfl
  have E0 : EntOk t ⟨[], [t], t⟩ := ⟨.nil t, rfl, h1, by simpa using h2, h3, fun w hw => by cases hw⟩
  have d0 : (⟨[], [t], t⟩ : Ent).d = .tup [.tup [], t.d, .lst []] := rfl
  have fe : ∀ {xs : List D}, frz (.ref S.length) (S ++ [⟨.mu, .lst xs⟩]) = .ok (.lst xs) (S ++ [⟨.fz, .lst xs⟩]) := fun {xs} => frz_end rfl
  generalize hn2 : (S ++ [⟨.mu, .lst [.tup [.tup [], t.d, .lst []]]⟩] : Cells).length = n2
  have hn2' : n2 = S.length + 1 := by rw [← hn2]; simp
  have key := while_inv (t := whTest (callF T.prog 1000 (k + 1)) (.cmp .ne (.v 1) (.lst .nil))) (b := evSs (callF T.prog 1000 (k + 1)) 1000 sWhile)
    (fun m ρ S' => ∃ (qs fs : List Ent) (L : Cells), S' = S ++ [⟨.mu, .lst (qs.map Ent.d)⟩] ++ [⟨.mu, .lst (fs.map Ent.d)⟩] ++ L ∧ SR t S.length n2 ρ ∧ (∀ x ∈ qs, EntOk t x) ∧ (∀ x ∈ fs, EntOk t x) ∧ Tm.ns (qs.map (·.u)) = m ∧ fs.length + m ≤ 60)
    (fun ρ S' => ∃ (fs : List Ent) (L : Cells), S' = S ++ [⟨.mu, .lst []⟩] ++ [⟨.mu, .lst (fs.map Ent.d)⟩] ++ L ∧ SR t S.length n2 ρ ∧ (∀ x ∈ fs, EntOk t x) ∧ fs.length ≤ 60) (by
    rintro m ρ S' ⟨qs, fs, L, rfl, hR, Q, F, hm, hb⟩
    have tst : whTest (callF T.prog 1000 (k + 1)) (.cmp .ne (.v 1) (.lst .nil)) ρ (S ++ [⟨.mu, .lst (qs.map Ent.d)⟩] ++ [⟨.mu, .lst (fs.map Ent.d)⟩] ++ L) = .ok (.bl (!qs.isEmpty)) (S ++ [⟨.mu, .lst (qs.map Ent.d)⟩] ++ [⟨.mu, .lst (fs.map Ent.d)⟩] ++ L) := by
      obtain ⟨o3, o4, o5, o6, o7, o8, rfl⟩ := hR
      have v1 : ∀ c : Cell, val (S ++ [⟨.mu, .lst (qs.map Ent.d)⟩] ++ [⟨.mu, .lst (fs.map Ent.d)⟩] ++ L ++ [c]) (.ref S.length) = some (.lst (qs.map Ent.d)) := fun c => by
        rw [List.append_assoc _ L]; exact val_ref c_g1
      have tk9 : ∀ c : Cell, ((S ++ [⟨.mu, .lst (qs.map Ent.d)⟩] ++ [⟨.mu, .lst (fs.map Ent.d)⟩] ++ L : Cells) ++ [c]).take (S ++ [⟨.mu, .lst (qs.map Ent.d)⟩] ++ [⟨.mu, .lst (fs.map Ent.d)⟩] ++ L : Cells).length = S ++ [⟨.mu, .lst (qs.map Ent.d)⟩] ++ [⟨.mu, .lst (fs.map Ent.d)⟩] ++ L := fun c => List.take_left
      have en := ents_ne Q
      generalize qs.map Ent.d = qd at v1 tk9 en
      generalize fs.map Ent.d = fd at v1 tk9
      simp only [whTest, x_nil, x_cons, x_k, x_v, x_g, x_tup, x_lst, x_bin, x_neg, x_cmp, x_chain, x_and, x_or, x_not, x_ite, x_int1, x_ix, x_sl, x_isi, x_call, x_callk, x_blt, x_mth, x_lc, x_tsnil, x_ts1, x_seq, x_rng1, x_enum, y_expr, y_ret, y_retN, y_set, y_unp, y_seti, y_star, y_ite, y_for, y_pass, y_cont, y_brk, y_nil, y_cons, y_aug, frzs2_c0, frzs1_c0, es2_c0, es1_c0, tup2_c0, tup1_c0, lst2_c0, lst1_c0, bin2_c0, bin1_c0, cmp2_c0, cmp1_c0, chain4_c0, chain3_c0, chain3_c1, chain2_c0, chain1_c0, and2_c0, and2_c1, and1_c0, or2_c0, or2_c1, or1_c0, tr2_c0, tr1_c0, not2_c0, not1_c0, ite1_c0, ite1_c1, ix2_c0, ix1_c0, sl3_c0, sl2_c0, sl1_c0, isi1_c0, call1_c0, callk1_c0, blt1_c0, mth2_c0, mth1_c0, lcT2_c0, lcT1_c0, lcT1_c1, lc1_c0, ts2_c0, seq1_c0, rng1_c0, enum1_c0, sret_c0, sset_c0, sunp2_c0, sunp_c0, sseti3_c0, sseti2_c0, sseti1_c0, sstar_c0, site_c0, site_c1, sfor_c0, saug2_c0, saug1_c0, saug_c0, neg1_ok, int1_ok, ts1_ok, enum2_ok, sexpr_ok, sseti4_ok, sthn_next, sthn_ret, sthn_brk, sthn_cont, frzs_nil, frzs_cons, norm_bl, norm_int, norm_str, norm_tup, norm_lst, norm_non, take_len0, take_set, take_app, need_t, val_int, val_str, val_bl, val_tup, val_lst, val_non, look_0, look_s, tru_bl, tru_int, both, one, ixl_0, ixl_1, ixl_2, ixl_3, ixt_0, ixt_1, ixt_2, ixt_3, add_i, sub_i, lt_i, le_i, gt_i, ge_i, len_l, len_t, abs_i, int_b, frz_int, frz_str, frz_bl, frz_tup, frz_lst, frz_non, set_same, len_set, set_s, set_0, bR_some, ret_ret, eq_str, ne_str, val_new, need_nil, newL_ok, norm_new, ret_next, p18, p8, List.map_cons, List.map_nil, List.replicate, List.cons_append, List.nil_append, Option.map_some, Bool.not_true, Bool.not_false, v1, tk9, en]
    cases qs with
    | nil => exact .inl ⟨_, tst, fs, L, rfl, hR, F, by omega⟩
    | cons e qs =>
      refine .inr ⟨_, tst, ?_⟩
      have l1 := len_ns ((e :: qs).map (·.u))
      rw [hm, List.length_map, List.length_cons] at l1
      obtain ⟨ρ', L', h4, h5⟩ := spot_turn (k := k) (W := 1000) (L := L) hn2' hR (Q e List.mem_cons_self) (qs := qs) (fs := fs) (by omega) (by omega)
      have hns : Tm.ns ((qs ++ kidsOf e).map (·.u)) + 1 = m := by
        rw [List.map_append, ns_app, kids_u, ← hm, List.map_cons, Tm.ns, kids_ns e.u]; omega
      refine ⟨ρ', _, Tm.ns ((qs ++ kidsOf e).map (·.u)), h4, by omega, qs ++ kidsOf e, fs ++ [e], L', rfl, h5, fun x hx => ?_, fun x hx => ?_, rfl, by rw [List.length_append, List.length_singleton]; omega⟩
      · rcases List.mem_append.mp hx with z | z
        · exact Q x (List.mem_cons_of_mem _ z)
        · unfold kidsOf at z
          obtain ⟨⟨v, j⟩, hj, rfl⟩ := List.mem_map.mp z
          exact kid_ok (Q e List.mem_cons_self) (List.mem_zipIdx_iff_getElem?.mp hj)
      · rcases List.mem_append.mp hx with z | z
        · exact F x z
        · rw [List.mem_singleton] at z; rw [z]; exact Q e List.mem_cons_self)
    (n := 1000) (m := t.n) (ρ := [some t.d, some (.ref S.length), some (.ref n2), none, none, none, none, none, none]) (S := S ++ [⟨.mu, .lst [.tup [.tup [], t.d, .lst []]]⟩] ++ [⟨.mu, .lst []⟩]) (by omega)
    ⟨[⟨[], [t], t⟩], [], [], by simp [d0], ⟨_, _, _, _, _, _, rfl⟩, fun x hx => by rw [List.mem_singleton] at hx; rw [hx]; exact E0, (fun x hx => by cases hx), by simp [Tm.ns], by simpa using h3⟩
  obtain ⟨ρ', S', ew, fs, L, rfl, ⟨o3, o4, o5, o6, o7, o8, rfl⟩, hF, hb⟩ := key
  refine ⟨fs, ?_, hF, hb⟩
  have fin : norm S.length (R.ok (.ref n2) (S ++ [⟨.mu, .lst []⟩] ++ [⟨.mu, .lst (fs.map Ent.d)⟩] ++ L)) = .ok (.ref S.length) (S ++ [⟨.mu, .lst (fs.map Ent.d)⟩]) := by
    have : (S ++ [⟨.mu, .lst []⟩] ++ [⟨.mu, .lst (fs.map Ent.d)⟩] ++ L : Cells) = S ++ ([⟨.mu, .lst []⟩] ++ ⟨.mu, .lst (fs.map Ent.d)⟩ :: L) := by simp
    rw [this]
    exact norm_at rfl (by rw [hn2']; rfl)
  have nn : norm n2 (R.ok (.ref n2) (S ++ [⟨.mu, .lst [.tup [.tup [], t.d, .lst []]]⟩] ++ [⟨.mu, .lst []⟩])) = .ok (.ref n2) (S ++ [⟨.mu, .lst [.tup [.tup [], t.d, .lst []]]⟩] ++ [⟨.mu, .lst []⟩]) := by
    rw [← hn2]; exact norm_new
  simp only [d__law_spots, s_split, x_nil, x_cons, x_k, x_v, x_g, x_tup, x_lst, x_bin, x_neg, x_cmp, x_chain, x_and, x_or, x_not, x_ite, x_int1, x_ix, x_sl, x_isi, x_call, x_callk, x_blt, x_mth, x_lc, x_tsnil, x_ts1, x_seq, x_rng1, x_enum, y_expr, y_ret, y_retN, y_set, y_unp, y_seti, y_star, y_ite, y_for, y_pass, y_cont, y_brk, y_nil, y_cons, y_aug, frzs2_c0, frzs1_c0, es2_c0, es1_c0, tup2_c0, tup1_c0, lst2_c0, lst1_c0, bin2_c0, bin1_c0, cmp2_c0, cmp1_c0, chain4_c0, chain3_c0, chain3_c1, chain2_c0, chain1_c0, and2_c0, and2_c1, and1_c0, or2_c0, or2_c1, or1_c0, tr2_c0, tr1_c0, not2_c0, not1_c0, ite1_c0, ite1_c1, ix2_c0, ix1_c0, sl3_c0, sl2_c0, sl1_c0, isi1_c0, call1_c0, callk1_c0, blt1_c0, mth2_c0, mth1_c0, lcT2_c0, lcT1_c0, lcT1_c1, lc1_c0, ts2_c0, seq1_c0, rng1_c0, enum1_c0, sret_c0, sset_c0, sunp2_c0, sunp_c0, sseti3_c0, sseti2_c0, sseti1_c0, sstar_c0, site_c0, site_c1, sfor_c0, saug2_c0, saug1_c0, saug_c0, neg1_ok, int1_ok, ts1_ok, enum2_ok, sexpr_ok, sseti4_ok, sthn_next, sthn_ret, sthn_brk, sthn_cont, frzs_nil, frzs_cons, norm_bl, norm_int, norm_str, norm_tup, norm_lst, norm_non, take_len0, take_set, take_app, need_t, val_int, val_str, val_bl, val_tup, val_lst, val_non, look_0, look_s, tru_bl, tru_int, both, one, ixl_0, ixl_1, ixl_2, ixl_3, ixt_0, ixt_1, ixt_2, ixt_3, add_i, sub_i, lt_i, le_i, gt_i, ge_i, len_l, len_t, abs_i, int_b, frz_int, frz_str, frz_bl, frz_tup, frz_lst, frz_non, set_same, len_set, set_s, set_0, bR_some, ret_ret, eq_str, ne_str, val_new, need_nil, newL_ok, norm_new, ret_next, p18, p8, List.map_cons, List.map_nil, List.replicate, List.cons_append, List.nil_append, Option.map_some, Bool.not_true, Bool.not_false, need1, need3, ft, fe, hn2, nn, y_while, ew, fin]

/-! ### the law -/
theorem pen {k W : Nat} {S : Cells} {ns : List Int} : ∃ cs : List Int, callF T.prog W (k + 1) "_law_pen" [.scr ns] S = .ok (.ref S.length) (S ++ [⟨.mu, .lst [.lst (cs.map .int), .int 0, .int 0]⟩]) ∧ cs.length ≤ 63 := by
  have e := call_def (T := T) ok (d := d__law_pen) (by unfold T; simp) (k := k) (W := W) (ds := [.scr ns]) (S := S) rfl
  rw [show d__law_pen.x = "_law_pen" from rfl] at e
  rw [e]
  have vs : val S (.scr ns) = some (.scr ns) := rfl
  have sl : slV (.scr ns) .non (.int 63) S = newL (cut (ns.map D.int) 0 (min (Int.toNat 63) ns.length)) S := by
    show (match bnd ns.length 0 .non, bnd ns.length ns.length (.int 63) with | some i, some j => newL (cut (ns.map D.int) i j) S | _, _ => .stuck) = _
    rw [bnd_int (by decide)]
    rfl
  rw [cut_map] at sl
  generalize hcs : cut ns 0 (min (Int.toNat 63) ns.length) = cs at sl
  have lcs : cs.length ≤ 63 := by
    rw [← hcs, cut_len]
    have : Int.toNat 63 = 63 := rfl
    omega
  have ho := hold_new (xs := cs.map D.int) (S := S) (S' := S) rfl
  have key := turns_inv (f := lcTurn (callF T.prog W k) (.v 1) [1] (.v 1) .nil [some (.scr ns), none]) (fun i ys S' => S' = S ∧ ys = (cs.take i).map D.int) (xs := cs.map D.int) (S := S) (ys0 := []) (i0 := 0) ⟨rfl, rfl⟩ (by
    rintro i x ys S' hx ⟨rfl, rfl⟩
    rw [List.getElem?_map] at hx
    cases hj : cs[i]? with
    | none => rw [hj] at hx; cases hx
    | some z =>
      rw [hj] at hx
      cases hx
      refine ⟨[.int z], S', ?_, rfl, ?_⟩
      · simp only [lcTurn, asg, wipeE, x_nil, x_cons, x_k, x_v, x_g, x_tup, x_lst, x_bin, x_neg, x_cmp, x_chain, x_and, x_or, x_not, x_ite, x_int1, x_ix, x_sl, x_isi, x_call, x_callk, x_blt, x_mth, x_lc, x_tsnil, x_ts1, x_seq, x_rng1, x_enum, y_expr, y_ret, y_retN, y_set, y_unp, y_seti, y_star, y_ite, y_for, y_pass, y_cont, y_brk, y_nil, y_cons, y_aug, frzs2_c0, frzs1_c0, es2_c0, es1_c0, tup2_c0, tup1_c0, lst2_c0, lst1_c0, bin2_c0, bin1_c0, cmp2_c0, cmp1_c0, chain4_c0, chain3_c0, chain3_c1, chain2_c0, chain1_c0, and2_c0, and2_c1, and1_c0, or2_c0, or2_c1, or1_c0, tr2_c0, tr1_c0, not2_c0, not1_c0, ite1_c0, ite1_c1, ix2_c0, ix1_c0, sl3_c0, sl2_c0, sl1_c0, isi1_c0, call1_c0, callk1_c0, blt1_c0, mth2_c0, mth1_c0, lcT2_c0, lcT1_c0, lcT1_c1, lc1_c0, ts2_c0, seq1_c0, rng1_c0, enum1_c0, sret_c0, sset_c0, sunp2_c0, sunp_c0, sseti3_c0, sseti2_c0, sseti1_c0, sstar_c0, site_c0, site_c1, sfor_c0, saug2_c0, saug1_c0, saug_c0, neg1_ok, int1_ok, ts1_ok, enum2_ok, sexpr_ok, sseti4_ok, sthn_next, sthn_ret, sthn_brk, sthn_cont, frzs_nil, frzs_cons, norm_bl, norm_int, norm_str, norm_tup, norm_lst, norm_non, take_len0, take_set, take_app, need_t, val_int, val_str, val_bl, val_tup, val_lst, val_non, look_0, look_s, tru_bl, tru_int, both, one, ixl_0, ixl_1, ixl_2, ixl_3, ixt_0, ixt_1, ixt_2, ixt_3, add_i, sub_i, lt_i, le_i, gt_i, ge_i, len_l, len_t, abs_i, int_b, frz_int, frz_str, frz_bl, frz_tup, frz_lst, frz_non, set_same, len_set, set_s, set_0, bR_some, ret_ret, eq_str, ne_str, val_new, need_nil, newL_ok, norm_new, ret_next, p18, p8, List.map_cons, List.map_nil, List.replicate, List.cons_append, List.nil_append, Option.map_some, Bool.not_true, Bool.not_false, lcT1_c0, lcT2_c0, keep]
      · rw [Nat.zero_add, List.take_add_one, hj]; simp)
  obtain ⟨ys, S', ey, rfl, h2⟩ := key
  rw [List.nil_append, Nat.zero_add, List.length_map, List.take_length] at h2
  subst h2
  have cp := comp_ok ey (by rw [List.length_map]; omega) (n := S'.length) rfl
  have fe : ∀ {xs : List D}, frz (.ref S'.length) (S' ++ [⟨.mu, .lst xs⟩]) = .ok (.lst xs) (S' ++ [⟨.fz, .lst xs⟩]) := fun {xs} => frz_end rfl
  refine ⟨cs, ?_, lcs⟩
  simp only [d__law_pen, b__law_pen, x_nil, x_cons, x_k, x_v, x_g, x_tup, x_lst, x_bin, x_neg, x_cmp, x_chain, x_and, x_or, x_not, x_ite, x_int1, x_ix, x_sl, x_isi, x_call, x_callk, x_blt, x_mth, x_lc, x_tsnil, x_ts1, x_seq, x_rng1, x_enum, y_expr, y_ret, y_retN, y_set, y_unp, y_seti, y_star, y_ite, y_for, y_pass, y_cont, y_brk, y_nil, y_cons, y_aug, frzs2_c0, frzs1_c0, es2_c0, es1_c0, tup2_c0, tup1_c0, lst2_c0, lst1_c0, bin2_c0, bin1_c0, cmp2_c0, cmp1_c0, chain4_c0, chain3_c0, chain3_c1, chain2_c0, chain1_c0, and2_c0, and2_c1, and1_c0, or2_c0, or2_c1, or1_c0, tr2_c0, tr1_c0, not2_c0, not1_c0, ite1_c0, ite1_c1, ix2_c0, ix1_c0, sl3_c0, sl2_c0, sl1_c0, isi1_c0, call1_c0, callk1_c0, blt1_c0, mth2_c0, mth1_c0, lcT2_c0, lcT1_c0, lcT1_c1, lc1_c0, ts2_c0, seq1_c0, rng1_c0, enum1_c0, sret_c0, sset_c0, sunp2_c0, sunp_c0, sseti3_c0, sseti2_c0, sseti1_c0, sstar_c0, site_c0, site_c1, sfor_c0, saug2_c0, saug1_c0, saug_c0, neg1_ok, int1_ok, ts1_ok, enum2_ok, sexpr_ok, sseti4_ok, sthn_next, sthn_ret, sthn_brk, sthn_cont, frzs_nil, frzs_cons, norm_bl, norm_int, norm_str, norm_tup, norm_lst, norm_non, take_len0, take_set, take_app, need_t, val_int, val_str, val_bl, val_tup, val_lst, val_non, look_0, look_s, tru_bl, tru_int, both, one, ixl_0, ixl_1, ixl_2, ixl_3, ixt_0, ixt_1, ixt_2, ixt_3, add_i, sub_i, lt_i, le_i, gt_i, ge_i, len_l, len_t, abs_i, int_b, frz_int, frz_str, frz_bl, frz_tup, frz_lst, frz_non, set_same, len_set, set_s, set_0, bR_some, ret_ret, eq_str, ne_str, val_new, need_nil, newL_ok, norm_new, ret_next, p18, p8, List.map_cons, List.map_nil, List.replicate, List.cons_append, List.nil_append, Option.map_some, Bool.not_true, Bool.not_false, vs, sl, ho, cp, fe, need3, norm_1]
theorem tm_rp {t : Tm} (h1 : t.ok 11) (h2 : t.h ≤ 12) (h3 : t.n ≤ 60) : t.d.rp = true := by
  have q1 := tm_dep t
  have q2 := tm_wt h1
  have q3 : (2 * 11 + 20) * t.n ≤ 42 * 60 := Nat.mul_le_mul (by decide) h3
  exact rp_of (tm_sm h1) (by omega) (by omega)
theorem tm_repr {t : Tm} (h : t.d.rp = true) (S : Cells) : bltV .repr [t.d] S = .ok (.str t.d.py.shown) S := by
  cases t <;> (rw [Tm.d] at h ⊢; exact repr_t h)
theorem strs_wts {m : Nat} : ∀ {l : List Str}, (∀ w ∈ l, Wd m w) → D.wts (l.map .str) ≤ (m + 1) * l.length
  | [], _ => Nat.zero_le _
  | w :: r, h => by
    have h1 := (h w List.mem_cons_self).1
    have h2 := strs_wts (l := r) fun v hv => h v (List.mem_cons_of_mem _ hv)
    show D.wts (.str w :: r.map .str) ≤ _
    rw [wts_cons, wt_str, List.length_cons, Nat.mul_succ]; omega
theorem strs_deps : ∀ l : List Str, D.deps (l.map .str) = 0
  | [] => rfl
  | w :: r => by show D.deps (.str w :: r.map .str) = 0; rw [deps_cons, strs_deps r]; rfl
theorem strs_rp {l : List Str} (h : ∀ w ∈ l, Wd 11 w) (hl : l.length ≤ 1000) : (D.lst (l.map .str)).rp = true := by
  refine rp_of (.lst (strs_sms h)) ?_ ?_
  · rw [dep_lst, strs_deps]; decide
  · rw [wt_lst]
    have := strs_wts h
    have : (11 + 1) * l.length ≤ 12 * 1000 := Nat.mul_le_mul (by decide) hl
    omega
theorem ab_len {t : Tm} {e : Ent} (E : EntOk t e) : e.ab.length ≤ 12 := by
  have bnl : ∀ l : List Tm, (l.flatMap Tm.bn).length ≤ l.length := by
    intro l
    induction l with
    | nil => exact Nat.le_refl _
    | cons a r ih =>
      rw [List.flatMap_cons, List.length_append, List.length_cons]
      have : a.bn.length ≤ 1 := by cases a <;> simp [Tm.bn]
      omega
  have h1 := bnl e.ws.dropLast
  have h2 := E.way.len
  have h3 := E.h
  rw [List.length_dropLast] at h1
  show (e.ws.dropLast.flatMap Tm.bn).length ≤ 12
  omega
def lIn : Sxs := (.cons (.ite (.or (.cmp .ne (.blt .repr (.cons (.call "part_at" (.cons (.v 3) (.cons (.v 5) .nil))) .nil)) (.blt .repr (.cons (.v 6) .nil))) (.cmp .ne (.blt .repr (.cons (.callk "part_at" [1, 0] (.cons (.v 5) (.cons (.v 3) .nil))) .nil)) (.blt .repr (.cons (.v 6) .nil))))
    (.cons (.ret (.k (.bl false)))
    .nil)
    .nil)
    (.cons (.set 8 (.call "names_above" (.cons (.v 3) (.cons (.v 5) .nil))))
    (.cons (.ite (.cmp .ne (.blt .repr (.cons (.v 8) .nil)) (.blt .repr (.cons (.v 7) .nil)))
    (.cons (.ret (.k (.bl false)))
    .nil)
    .nil)
    (.cons (.expr (.mth .append (.v 8) (.cons (.k (.str "x")) .nil)))
    (.cons (.ite (.cmp .ne (.blt .repr (.cons (.callk "names_above" [1, 0] (.cons (.v 5) (.cons (.v 3) .nil))) .nil)) (.blt .repr (.cons (.v 7) .nil)))
    (.cons (.ret (.k (.bl false)))
    .nil)
    .nil)
    .nil)))))
def lOut : Sxs := (.cons (.set 3 (.call "_law_term" (.cons (.v 1) (.cons (.call "_law_kit" (.cons (.v 1) .nil)) .nil))))
    (.cons (.set 4 (.blt .repr (.cons (.v 3) .nil)))
    (.cons (.for (.tup [5, 6, 7]) (.seq (.call "_law_spots" (.cons (.v 3) .nil)))
    lIn)
    (.cons (.ite (.cmp .ne (.blt .repr (.cons (.v 3) .nil)) (.v 4))
    (.cons (.ret (.k (.bl false)))
    .nil)
    .nil)
    .nil))))
theorem l_split : b_law = (.cons (.set 1 (.call "_law_pen" (.cons (.v 0) .nil)))
    (.cons (.for (.v 2) (.rng1 (.k (.int 3)))
    lOut)
    (.cons (.ret (.k (.bl true)))
    .nil))) := rfl
/-- a place looked at -/
theorem look_in {k : Nat} {S : Cells} {t : Tm} {e : Ent} {ns : List Int} {o2 o4 o8 : Option D} (E : EntOk t e) : ∃ c : Cell, evSs (callF T.prog 1000 (k + 3)) 1000 lIn
      [some (.scr ns), some (.ref 0), o2, some t.d, o4, some (.tup (e.path.map fun (i : Nat) => D.int i)), some e.u.d, some (.lst (e.ab.map .str)), o8] S =
    .next [some (.scr ns), some (.ref 0), o2, some t.d, o4, some (.tup (e.path.map fun (i : Nat) => D.int i)), some e.u.d, some (.lst (e.ab.map .str)), some (.ref S.length)] (S ++ [c]) := by
  have hl : e.path.length ≤ 100 := by have := E.h; omega
  have pa := fun S0 => part_at (k := k) (W := 1000) (S := S0) E.way E.last hl
  have na := fun S0 => names_above (k := k) (W := 1000) (S := S0) E.way E.last hl
  have ru := tm_rp E.ok (by have := E.h; omega) E.n
  have rt := tm_repr ru
  have nt := fun {S0 : Cells} (n : Nat) => show norm n (.ok e.u.d S0) = .ok e.u.d (S0.take n) by cases e.u <;> rw [Tm.d] <;> rfl
  have ra := strs_rp E.ab (by have := ab_len E; omega)
  have rl := fun S0 : Cells => repr_l (S := S0) ra
  have pm : ([1, 0] : List Nat).map (fun i => [D.tup (e.path.map fun (i : Nat) => D.int i), t.d].getD i .non) = [t.d, D.tup (e.path.map fun (i : Nat) => D.int i)] := rfl
  have eqs : ∀ s : Str, cmpV .ne (.str s) (.str s) = some false := fun s => by show some (!(s == s)) = _; simp
  have rr : ∀ (S0 : Cells), bltV .repr [.ref S0.length] (S0 ++ [⟨.mu, .lst (e.ab.map .str)⟩]) = .ok (.str (D.lst (e.ab.map .str)).py.shown) (S0 ++ [⟨.mu, .lst (e.ab.map .str)⟩]) := fun S0 => repr_r (val_at (L := []) rfl) ra
  have ap := append_ok (S := S ++ [⟨.mu, .lst (e.ab.map .str)⟩]) (m := S.length) (x := .str "x") (xs := e.ab.map .str) (by simp) rfl (by rw [List.length_map]; have := ab_len E; omega)
  have sa : (S ++ [⟨.mu, .lst (e.ab.map .str)⟩] : Cells).set S.length ⟨.mu, .lst (e.ab.map .str ++ [.str "x"])⟩ = S ++ [⟨.mu, .lst (e.ab.map .str ++ [.str "x"])⟩] := by simp
  rw [sa] at ap
  have abd : e.ws.dropLast.flatMap Tm.bn = e.ab := rfl
  rw [abd] at na
  have tk2 : ∀ {a b : Cell}, (S ++ [a]).take (S ++ [b]).length = S ++ [a] := fun {a b} => tk_all (by simp)
  refine ⟨⟨.mu, .lst (e.ab.map .str ++ [.str "x"])⟩, ?_⟩
  simp only [lIn, x_nil, x_cons, x_k, x_v, x_g, x_tup, x_lst, x_bin, x_neg, x_cmp, x_chain, x_and, x_or, x_not, x_ite, x_int1, x_ix, x_sl, x_isi, x_call, x_callk, x_blt, x_mth, x_lc, x_tsnil, x_ts1, x_seq, x_rng1, x_enum, y_expr, y_ret, y_retN, y_set, y_unp, y_seti, y_star, y_ite, y_for, y_pass, y_cont, y_brk, y_nil, y_cons, y_aug, frzs2_c0, frzs1_c0, es2_c0, es1_c0, tup2_c0, tup1_c0, lst2_c0, lst1_c0, bin2_c0, bin1_c0, cmp2_c0, cmp1_c0, chain4_c0, chain3_c0, chain3_c1, chain2_c0, chain1_c0, and2_c0, and2_c1, and1_c0, or2_c0, or2_c1, or1_c0, tr2_c0, tr1_c0, not2_c0, not1_c0, ite1_c0, ite1_c1, ix2_c0, ix1_c0, sl3_c0, sl2_c0, sl1_c0, isi1_c0, call1_c0, callk1_c0, blt1_c0, mth2_c0, mth1_c0, lcT2_c0, lcT1_c0, lcT1_c1, lc1_c0, ts2_c0, seq1_c0, rng1_c0, enum1_c0, sret_c0, sset_c0, sunp2_c0, sunp_c0, sseti3_c0, sseti2_c0, sseti1_c0, sstar_c0, site_c0, site_c1, sfor_c0, saug2_c0, saug1_c0, saug_c0, neg1_ok, int1_ok, ts1_ok, enum2_ok, sexpr_ok, sseti4_ok, sthn_next, sthn_ret, sthn_brk, sthn_cont, frzs_nil, frzs_cons, norm_bl, norm_int, norm_str, norm_tup, norm_lst, norm_non, take_len0, take_set, take_app, need_t, val_int, val_str, val_bl, val_tup, val_lst, val_non, look_0, look_s, tru_bl, tru_int, both, one, ixl_0, ixl_1, ixl_2, ixl_3, ixt_0, ixt_1, ixt_2, ixt_3, add_i, sub_i, lt_i, le_i, gt_i, ge_i, len_l, len_t, abs_i, int_b, frz_int, frz_str, frz_bl, frz_tup, frz_lst, frz_non, set_same, len_set, set_s, set_0, bR_some, ret_ret, eq_str, ne_str, val_new, need_nil, newL_ok, norm_new, ret_next, p18, p8, List.map_cons, List.map_nil, List.replicate, List.cons_append, List.nil_append, Option.map_some, Bool.not_true, Bool.not_false, pa, na, rt, nt, rl, pm, eqs, rr, ap, or2_c0, or2_c1, tk2]
  trace_state

def LR (ns : List Int) (ρ : VS.Env) : Prop := ∃ o2 o3 o4 o5 o6 o7 o8, ρ = [some (.scr ns), some (.ref 0), o2, o3, o4, o5, o6, o7, o8]
theorem round {S : Cells} {a : Nat} {ns : List Int} {ρ : VS.Env} (hP : Pen S 0 a) (ha : a + 200000000000000 < big) (hR : LR ns ρ) : ∃ ρ' S', evSs (callF T.prog 1000 39) 1000 lOut ρ S = .next ρ' S' ∧ Pen S' 0 (a + 200000000000000) ∧ LR ns ρ' := by
  obtain ⟨o2, o3, o4, o5, o6, o7, o8, rfl⟩ := hR
  obtain ⟨S1, tops, bs, nms, u1, e1, P1, k1, k2, k3, k4, k5, k6⟩ := kit (k := 36) (W := 1000) hP (by unfold big at *; omega)
  have K : KitOk tops bs nms := ⟨by omega, by omega, by omega, by omega, by omega, by omega, k4, k5, k6⟩
  obtain ⟨t, S2, u2, e2, P2, h1, h2, h3⟩ := term (k := 25) (W := 1000) P1 (by unfold big at *; omega) K
  obtain ⟨fs, e3, F, hf⟩ := spots (k := 37) (S := S2) h3 h2 h1
  have l1 := u1.len
  have l2 := u2.len
  have rp := tm_repr (tm_rp h3 h2 h1)
  have nt := fun {S0 : Cells} (n : Nat) => show norm n (.ok t.d S0) = .ok t.d (S0.take n) by cases t <;> rw [Tm.d] <;> rfl
  have key := for_inv (f := VS.forTurn (callF T.prog 1000 39) 1000 (.tup [5, 6, 7]) lIn)
    (fun i ρ S' => ∃ L o5 o6 o7 o8, S' = S2 ++ L ∧ ρ = [some (.scr ns), some (.ref 0), o2, some t.d, some (.str t.d.py.shown), o5, o6, o7, o8])
    (xs := fs.map Ent.d) (ρ := [some (.scr ns), some (.ref 0), o2, some t.d, some (.str t.d.py.shown), o5, o6, o7, o8]) (S := S2) (i0 := 0) ⟨[], _, _, _, _, by simp, rfl⟩ (by
    rintro i x ρ S' hx ⟨L, q5, q6, q7, q8, rfl, rfl⟩
    rw [List.getElem?_map] at hx
    cases hj : fs[i]? with
    | none => rw [hj] at hx; cases hx
    | some e =>
      rw [hj] at hx
      cases hx
      have E := F e (List.mem_of_getElem? hj)
      obtain ⟨c, ec⟩ := look_in (k := 36) (S := S2 ++ L) (ns := ns) (o2 := o2) (o4 := some (.str t.d.py.shown)) (o8 := q8) E
      exact ⟨_, S2 ++ L ++ [c], .inl ec, L ++ [c], _, _, _, _, by rw [List.append_assoc], rfl⟩)
  obtain ⟨ρ', S', ef, L, q5, q6, q7, q8, rfl, rfl⟩ := key
  have t1 : S1.take S.length = S1 := tk_all l1
  have t2 : S2.take S.length = S2 := tk_all (by omega)
  have t2' : S2.take S1.length = S2 := tk_all l2
  have ho := hold_new (xs := fs.map Ent.d) (S := S2) (S' := S2) rfl
  have tkL : (S2 ++ L).take (S2 ++ L).length = S2 ++ L := List.take_length
  have eqs : ∀ s : Str, cmpV .ne (.str s) (.str s) = some false := fun s => by show some (!(s == s)) = _; simp
  have nk : ∀ {n : Nat} {S0 : Cells} {xs : List D}, norm n (.ok (.tup xs) S0) = .ok (.tup xs) (S0.take n) := fun {n S0 xs} => rfl
  refine ⟨[some (.scr ns), some (.ref 0), o2, some t.d, some (.str t.d.py.shown), q5, q6, q7, q8], S2 ++ L, ?_, (P2.app).mono (by omega), ⟨_, _, _, _, _, _, _, rfl⟩⟩
  simp only [lOut, x_nil, x_cons, x_k, x_v, x_g, x_tup, x_lst, x_bin, x_neg, x_cmp, x_chain, x_and, x_or, x_not, x_ite, x_int1, x_ix, x_sl, x_isi, x_call, x_callk, x_blt, x_mth, x_lc, x_tsnil, x_ts1, x_seq, x_rng1, x_enum, y_expr, y_ret, y_retN, y_set, y_unp, y_seti, y_star, y_ite, y_for, y_pass, y_cont, y_brk, y_nil, y_cons, y_aug, frzs2_c0, frzs1_c0, es2_c0, es1_c0, tup2_c0, tup1_c0, lst2_c0, lst1_c0, bin2_c0, bin1_c0, cmp2_c0, cmp1_c0, chain4_c0, chain3_c0, chain3_c1, chain2_c0, chain1_c0, and2_c0, and2_c1, and1_c0, or2_c0, or2_c1, or1_c0, tr2_c0, tr1_c0, not2_c0, not1_c0, ite1_c0, ite1_c1, ix2_c0, ix1_c0, sl3_c0, sl2_c0, sl1_c0, isi1_c0, call1_c0, callk1_c0, blt1_c0, mth2_c0, mth1_c0, lcT2_c0, lcT1_c0, lcT1_c1, lc1_c0, ts2_c0, seq1_c0, rng1_c0, enum1_c0, sret_c0, sset_c0, sunp2_c0, sunp_c0, sseti3_c0, sseti2_c0, sseti1_c0, sstar_c0, site_c0, site_c1, sfor_c0, saug2_c0, saug1_c0, saug_c0, neg1_ok, int1_ok, ts1_ok, enum2_ok, sexpr_ok, sseti4_ok, sthn_next, sthn_ret, sthn_brk, sthn_cont, frzs_nil, frzs_cons, norm_bl, norm_int, norm_str, norm_tup, norm_lst, norm_non, take_len0, take_set, take_app, need_t, val_int, val_str, val_bl, val_tup, val_lst, val_non, look_0, look_s, tru_bl, tru_int, both, one, ixl_0, ixl_1, ixl_2, ixl_3, ixt_0, ixt_1, ixt_2, ixt_3, add_i, sub_i, lt_i, le_i, gt_i, ge_i, len_l, len_t, abs_i, int_b, frz_int, frz_str, frz_bl, frz_tup, frz_lst, frz_non, set_same, len_set, set_s, set_0, bR_some, ret_ret, eq_str, ne_str, val_new, need_nil, newL_ok, norm_new, ret_next, p18, p8, List.map_cons, List.map_nil, List.replicate, List.cons_append, List.nil_append, Option.map_some, Bool.not_true, Bool.not_false, e1, e2, e3, t1, t2, t2', nt, rp, norm_new, ho, ef, forE_0, tkL, eqs]
theorem law_true (ns : List Int) (h : ns.length ≤ 63) (hb : ∀ z ∈ ns, Builtin.Int.intBits z ≤ 1048576) : ∃ S, callF T.prog 1000 40 "law" [.scr ns] [] = .ok (.bl true) S := by
  have e := call_def (T := T) ok (d := d_law) (by unfold T; simp) (k := 39) (W := 1000) (ds := [.scr ns]) (S := []) rfl
  rw [show d_law.x = "law" from rfl] at e
  obtain ⟨cs, ep, lc⟩ := pen (k := 38) (W := 1000) (S := []) (ns := ns)
  have P0 : Pen [⟨.mu, .lst [.lst (cs.map .int), .int 0, .int 0]⟩] 0 0 := ⟨cs, 0, 0, rfl, by decide, by decide, by decide, lc⟩
  have key := for_inv (f := VS.forTurn (callF T.prog 1000 39) 1000 (.v 2) lOut) (fun i ρ S' => Pen S' 0 (i * 200000000000000) ∧ LR ns ρ) (xs := rngD 0 (Int.toNat 3)) (ρ := [some (.scr ns), some (.ref 0), none, none, none, none, none, none, none])
    (S := [⟨.mu, .lst [.lst (cs.map .int), .int 0, .int 0]⟩]) (i0 := 0) ⟨P0, _, _, _, _, _, _, _, rfl⟩ (by
    rintro i x ρ S' hx ⟨hP, o2, o3, o4, o5, o6, o7, o8, rfl⟩
    obtain ⟨hi, rfl⟩ := rngD_get hx
    rw [Nat.zero_add] at hP
    have h3 : i < 3 := hi
    obtain ⟨ρ', S2, e1, P2, R2⟩ := round (ρ := [some (.scr ns), some (.ref 0), some (.int (0 + (i : Int))), o3, o4, o5, o6, o7, o8]) hP (by unfold big; omega) ⟨_, _, _, _, _, _, _, rfl⟩
    refine ⟨ρ', S2, .inl e1, ?_, R2⟩
    rw [Nat.zero_add, Nat.succ_mul]
    exact P2)
  obtain ⟨ρ', S', ef, hP, hR⟩ := key
  refine ⟨S'.take 0, e.trans ?_⟩
  have rg := fun r => need_rng (m := 3) (by decide) (by decide) (α := Walked) r
  rw [List.length_nil, List.nil_append] at ep
  have n0 : norm 0 (R.ok (.ref 0) [⟨.mu, .lst [.lst (cs.map .int), .int 0, .int 0]⟩]) = .ok (.ref 0) [⟨.mu, .lst [.lst (cs.map .int), .int 0, .int 0]⟩] := rfl
  have t0 : ∀ {c : Cell}, ([c] : Cells).take ([c] : Cells).length = [c] := fun {c} => rfl
  obtain ⟨o2, o3, o4, o5, o6, o7, o8, rfl⟩ := hR
  simp only [d_law, l_split, x_nil, x_cons, x_k, x_v, x_g, x_tup, x_lst, x_bin, x_neg, x_cmp, x_chain, x_and, x_or, x_not, x_ite, x_int1, x_ix, x_sl, x_isi, x_call, x_callk, x_blt, x_mth, x_lc, x_tsnil, x_ts1, x_seq, x_rng1, x_enum, y_expr, y_ret, y_retN, y_set, y_unp, y_seti, y_star, y_ite, y_for, y_pass, y_cont, y_brk, y_nil, y_cons, y_aug, frzs2_c0, frzs1_c0, es2_c0, es1_c0, tup2_c0, tup1_c0, lst2_c0, lst1_c0, bin2_c0, bin1_c0, cmp2_c0, cmp1_c0, chain4_c0, chain3_c0, chain3_c1, chain2_c0, chain1_c0, and2_c0, and2_c1, and1_c0, or2_c0, or2_c1, or1_c0, tr2_c0, tr1_c0, not2_c0, not1_c0, ite1_c0, ite1_c1, ix2_c0, ix1_c0, sl3_c0, sl2_c0, sl1_c0, isi1_c0, call1_c0, callk1_c0, blt1_c0, mth2_c0, mth1_c0, lcT2_c0, lcT1_c0, lcT1_c1, lc1_c0, ts2_c0, seq1_c0, rng1_c0, enum1_c0, sret_c0, sset_c0, sunp2_c0, sunp_c0, sseti3_c0, sseti2_c0, sseti1_c0, sstar_c0, site_c0, site_c1, sfor_c0, saug2_c0, saug1_c0, saug_c0, neg1_ok, int1_ok, ts1_ok, enum2_ok, sexpr_ok, sseti4_ok, sthn_next, sthn_ret, sthn_brk, sthn_cont, frzs_nil, frzs_cons, norm_bl, norm_int, norm_str, norm_tup, norm_lst, norm_non, take_len0, take_set, take_app, need_t, val_int, val_str, val_bl, val_tup, val_lst, val_non, look_0, look_s, tru_bl, tru_int, both, one, ixl_0, ixl_1, ixl_2, ixl_3, ixt_0, ixt_1, ixt_2, ixt_3, add_i, sub_i, lt_i, le_i, gt_i, ge_i, len_l, len_t, abs_i, int_b, frz_int, frz_str, frz_bl, frz_tup, frz_lst, frz_non, set_same, len_set, set_s, set_0, bR_some, ret_ret, eq_str, ne_str, val_new, need_nil, newL_ok, norm_new, ret_next, p18, p8, List.map_cons, List.map_nil, List.replicate, List.cons_append, List.nil_append, Option.map_some, Bool.not_true, Bool.not_false, List.length_nil, ep, n0, t0, rg, ef, forE_0]
end Own

namespace Own
open PySem L2 PyProof.Rows
theorem stands {K : PySem.W.Frag} {h : Heap} {mg : Str → Option Value} (X : K.In h) (G : h.Ns mainGlobals mg)
    {f0 : Addr} {o0 r0 : Option Addr} {s0 : Array (Option Value)} {c0 v0 e0 p0 k0 t0 : Value}
    {f1 : Addr} {o1 r1 : Option Addr} {s1 : Array (Option Value)} {c1 v1 e1 p1 k1 t1 : Value}
    {f2 : Addr} {o2 r2 : Option Addr} {s2 : Array (Option Value)} {c2 v2 e2 p2 k2 t2 : Value}
    {f3 : Addr} {o3 r3 : Option Addr} {s3 : Array (Option Value)} {c3 v3 e3 p3 k3 t3 : Value}
    {f4 : Addr} {o4 r4 : Option Addr} {s4 : Array (Option Value)} {c4 v4 e4 p4 k4 t4 : Value}
    {f5 : Addr} {o5 r5 : Option Addr} {s5 : Array (Option Value)} {c5 v5 e5 p5 k5 t5 : Value}
    {f6 : Addr} {o6 r6 : Option Addr} {s6 : Array (Option Value)} {c6 v6 e6 p6 k6 t6 : Value}
    {f7 : Addr} {o7 r7 : Option Addr} {s7 : Array (Option Value)} {c7 v7 e7 p7 k7 t7 : Value}
    {f8 : Addr} {o8 r8 : Option Addr} {s8 : Array (Option Value)} {c8 v8 e8 p8 k8 t8 : Value}
    {f9 : Addr} {o9 r9 : Option Addr} {s9 : Array (Option Value)} {c9 v9 e9 p9 k9 t9 : Value}
    {f10 : Addr} {o10 r10 : Option Addr} {s10 : Array (Option Value)} {c10 v10 e10 p10 k10 t10 : Value}
    {f11 : Addr} {o11 r11 : Option Addr} {s11 : Array (Option Value)} {c11 v11 e11 p11 k11 t11 : Value}
    {f12 : Addr} {o12 r12 : Option Addr} {s12 : Array (Option Value)} {c12 v12 e12 p12 k12 t12 : Value}
    {f13 : Addr} {o13 r13 : Option Addr} {s13 : Array (Option Value)} {c13 v13 e13 p13 k13 t13 : Value}
    (xa0 : PySem.W.nsIn K mainGlobals "is_whole" = some (some (.ref f0))) (xl0 : K.lookup f0 = some ⟨c0, o0, .func (PySem.W.fnOf "is_whole" "is_whole" (L2.defArgs d_is_whole.st) (L2.defBody d_is_whole.st) (L2.defScope d_is_whole.st) .none v0 e0 p0 r0 k0 t0), s0⟩) (xc0 : PySem.W.codeIn K k0 "is_whole" = true) (xk0 : PySem.W.keepIn K (.ref f0) = true)
    (xa1 : PySem.W.nsIn K mainGlobals "parts_of" = some (some (.ref f1))) (xl1 : K.lookup f1 = some ⟨c1, o1, .func (PySem.W.fnOf "parts_of" "parts_of" (L2.defArgs d_parts_of.st) (L2.defBody d_parts_of.st) (L2.defScope d_parts_of.st) .none v1 e1 p1 r1 k1 t1), s1⟩) (xc1 : PySem.W.codeIn K k1 "parts_of" = true) (xk1 : PySem.W.keepIn K (.ref f1) = true)
    (xa2 : PySem.W.nsIn K mainGlobals "way_to" = some (some (.ref f2))) (xl2 : K.lookup f2 = some ⟨c2, o2, .func (PySem.W.fnOf "way_to" "way_to" (L2.defArgs d_way_to.st) (L2.defBody d_way_to.st) (L2.defScope d_way_to.st) .none v2 e2 p2 r2 k2 t2), s2⟩) (xc2 : PySem.W.codeIn K k2 "way_to" = true) (xk2 : PySem.W.keepIn K (.ref f2) = true)
    (xa3 : PySem.W.nsIn K mainGlobals "part_at" = some (some (.ref f3))) (xl3 : K.lookup f3 = some ⟨c3, o3, .func (PySem.W.fnOf "part_at" "part_at" (L2.defArgs d_part_at.st) (L2.defBody d_part_at.st) (L2.defScope d_part_at.st) .none v3 e3 p3 r3 k3 t3), s3⟩) (xc3 : PySem.W.codeIn K k3 "part_at" = true) (xk3 : PySem.W.keepIn K (.ref f3) = true)
    (xa4 : PySem.W.nsIn K mainGlobals "names_above" = some (some (.ref f4))) (xl4 : K.lookup f4 = some ⟨c4, o4, .func (PySem.W.fnOf "names_above" "names_above" (L2.defArgs d_names_above.st) (L2.defBody d_names_above.st) (L2.defScope d_names_above.st) .none v4 e4 p4 r4 k4 t4), s4⟩) (xc4 : PySem.W.codeIn K k4 "names_above" = true) (xk4 : PySem.W.keepIn K (.ref f4) = true)
    (xa5 : PySem.W.nsIn K mainGlobals "_law_pen" = some (some (.ref f5))) (xl5 : K.lookup f5 = some ⟨c5, o5, .func (PySem.W.fnOf "_law_pen" "_law_pen" (L2.defArgs d__law_pen.st) (L2.defBody d__law_pen.st) (L2.defScope d__law_pen.st) .none v5 e5 p5 r5 k5 t5), s5⟩) (xc5 : PySem.W.codeIn K k5 "_law_pen" = true) (xk5 : PySem.W.keepIn K (.ref f5) = true)
    (xa6 : PySem.W.nsIn K mainGlobals "_law_take" = some (some (.ref f6))) (xl6 : K.lookup f6 = some ⟨c6, o6, .func (PySem.W.fnOf "_law_take" "_law_take" (L2.defArgs d__law_take.st) (L2.defBody d__law_take.st) (L2.defScope d__law_take.st) .none v6 e6 p6 r6 k6 t6), s6⟩) (xc6 : PySem.W.codeIn K k6 "_law_take" = true) (xk6 : PySem.W.keepIn K (.ref f6) = true)
    (xa7 : PySem.W.nsIn K mainGlobals "_law_words" = some (some (.ref f7))) (xl7 : K.lookup f7 = some ⟨c7, o7, .func (PySem.W.fnOf "_law_words" "_law_words" (L2.defArgs d__law_words.st) (L2.defBody d__law_words.st) (L2.defScope d__law_words.st) .none v7 e7 p7 r7 k7 t7), s7⟩) (xc7 : PySem.W.codeIn K k7 "_law_words" = true) (xk7 : PySem.W.keepIn K (.ref f7) = true)
    (xa8 : PySem.W.nsIn K mainGlobals "_law_kit" = some (some (.ref f8))) (xl8 : K.lookup f8 = some ⟨c8, o8, .func (PySem.W.fnOf "_law_kit" "_law_kit" (L2.defArgs d__law_kit.st) (L2.defBody d__law_kit.st) (L2.defScope d__law_kit.st) .none v8 e8 p8 r8 k8 t8), s8⟩) (xc8 : PySem.W.codeIn K k8 "_law_kit" = true) (xk8 : PySem.W.keepIn K (.ref f8) = true)
    (xa9 : PySem.W.nsIn K mainGlobals "_law_grown" = some (some (.ref f9))) (xl9 : K.lookup f9 = some ⟨c9, o9, .func (PySem.W.fnOf "_law_grown" "_law_grown" (L2.defArgs d__law_grown.st) (L2.defBody d__law_grown.st) (L2.defScope d__law_grown.st) .none v9 e9 p9 r9 k9 t9), s9⟩) (xc9 : PySem.W.codeIn K k9 "_law_grown" = true) (xk9 : PySem.W.keepIn K (.ref f9) = true)
    (xa10 : PySem.W.nsIn K mainGlobals "_law_term" = some (some (.ref f10))) (xl10 : K.lookup f10 = some ⟨c10, o10, .func (PySem.W.fnOf "_law_term" "_law_term" (L2.defArgs d__law_term.st) (L2.defBody d__law_term.st) (L2.defScope d__law_term.st) .none v10 e10 p10 r10 k10 t10), s10⟩) (xc10 : PySem.W.codeIn K k10 "_law_term" = true) (xk10 : PySem.W.keepIn K (.ref f10) = true)
    (xa11 : PySem.W.nsIn K mainGlobals "_law_inside" = some (some (.ref f11))) (xl11 : K.lookup f11 = some ⟨c11, o11, .func (PySem.W.fnOf "_law_inside" "_law_inside" (L2.defArgs d__law_inside.st) (L2.defBody d__law_inside.st) (L2.defScope d__law_inside.st) .none v11 e11 p11 r11 k11 t11), s11⟩) (xc11 : PySem.W.codeIn K k11 "_law_inside" = true) (xk11 : PySem.W.keepIn K (.ref f11) = true)
    (xa12 : PySem.W.nsIn K mainGlobals "_law_spots" = some (some (.ref f12))) (xl12 : K.lookup f12 = some ⟨c12, o12, .func (PySem.W.fnOf "_law_spots" "_law_spots" (L2.defArgs d__law_spots.st) (L2.defBody d__law_spots.st) (L2.defScope d__law_spots.st) .none v12 e12 p12 r12 k12 t12), s12⟩) (xc12 : PySem.W.codeIn K k12 "_law_spots" = true) (xk12 : PySem.W.keepIn K (.ref f12) = true)
    (xa13 : PySem.W.nsIn K mainGlobals "law" = some (some (.ref f13))) (xl13 : K.lookup f13 = some ⟨c13, o13, .func (PySem.W.fnOf "law" "law" (L2.defArgs d_law.st) (L2.defBody d_law.st) (L2.defScope d_law.st) .none v13 e13 p13 r13 k13 t13), s13⟩) (xc13 : PySem.W.codeIn K k13 "law" = true) (xk13 : PySem.W.keepIn K (.ref f13) = true)
    (xz0 : PySem.W.nsIn K mainGlobals "abs" = some none)
    (xz1 : PySem.W.nsIn K mainGlobals "bool" = some none)
    (xz2 : PySem.W.nsIn K mainGlobals "enumerate" = some none)
    (xz3 : PySem.W.nsIn K mainGlobals "int" = some none)
    (xz4 : PySem.W.nsIn K mainGlobals "isinstance" = some none)
    (xz5 : PySem.W.nsIn K mainGlobals "len" = some none)
    (xz6 : PySem.W.nsIn K mainGlobals "list" = some none)
    (xz7 : PySem.W.nsIn K mainGlobals "range" = some none)
    (xz8 : PySem.W.nsIn K mainGlobals "repr" = some none)
    (xz9 : PySem.W.nsIn K mainGlobals "tuple" = some none)
    : (∀ D ∈ T.ds, VS.Stands K mg T D) ∧ ∀ x ∈ T.bs, mg x = none := by
  constructor
  · intro D hD
    simp only [T, List.mem_cons, List.not_mem_nil, or_false] at hD
    rcases hD with rfl | rfl | rfl | rfl | rfl | rfl | rfl | rfl | rfl | rfl | rfl | rfl | rfl | rfl
    · refine VS.stand_of (PySem.W.mg_of X G xa0) (L2.fun_mk (st := d_is_whole.st) xl0 xc0 xk0) (fun _ _ _ _ _ _ us hl => match us, hl with | [_, _, _], _ => rfl) ?_
      intro p hp hx
      simp only [T, List.mem_cons, List.not_mem_nil, or_false] at hp
      rcases hp with rfl | rfl
      · exact absurd hx (by decide +kernel)
      · exact absurd hx (by decide +kernel)
    · refine VS.stand_of (PySem.W.mg_of X G xa1) (L2.fun_mk (st := d_parts_of.st) xl1 xc1 xk1) (fun _ _ _ _ _ _ us hl => match us, hl with | [_], _ => rfl) ?_
      intro p hp hx
      simp only [T, List.mem_cons, List.not_mem_nil, or_false] at hp
      rcases hp with rfl | rfl
      · exact absurd hx (by decide +kernel)
      · exact absurd hx (by decide +kernel)
    · refine VS.stand_of (PySem.W.mg_of X G xa2) (L2.fun_mk (st := d_way_to.st) xl2 xc2 xk2) (fun _ _ _ _ _ _ us hl => match us, hl with | [_, _], _ => rfl) ?_
      intro p hp hx
      simp only [T, List.mem_cons, List.not_mem_nil, or_false] at hp
      rcases hp with rfl | rfl
      · exact absurd hx (by decide +kernel)
      · exact absurd hx (by decide +kernel)
    · refine VS.stand_of (PySem.W.mg_of X G xa3) (L2.fun_mk (st := d_part_at.st) xl3 xc3 xk3) (fun _ _ _ _ _ _ us hl => match us, hl with | [_, _], _ => rfl) ?_
      intro p hp hx
      simp only [T, List.mem_cons, List.not_mem_nil, or_false] at hp
      rcases hp with rfl | rfl
      · exact absurd hx (by decide +kernel)
      · intro _ _ _ _ _ _ us hl
        match us, hl with | [_, _], _ => rfl
    · refine VS.stand_of (PySem.W.mg_of X G xa4) (L2.fun_mk (st := d_names_above.st) xl4 xc4 xk4) (fun _ _ _ _ _ _ us hl => match us, hl with | [_, _], _ => rfl) ?_
      intro p hp hx
      simp only [T, List.mem_cons, List.not_mem_nil, or_false] at hp
      rcases hp with rfl | rfl
      · intro _ _ _ _ _ _ us hl
        match us, hl with | [_, _], _ => rfl
      · exact absurd hx (by decide +kernel)
    · refine VS.stand_of (PySem.W.mg_of X G xa5) (L2.fun_mk (st := d__law_pen.st) xl5 xc5 xk5) (fun _ _ _ _ _ _ us hl => match us, hl with | [_], _ => rfl) ?_
      intro p hp hx
      simp only [T, List.mem_cons, List.not_mem_nil, or_false] at hp
      rcases hp with rfl | rfl
      · exact absurd hx (by decide +kernel)
      · exact absurd hx (by decide +kernel)
    · refine VS.stand_of (PySem.W.mg_of X G xa6) (L2.fun_mk (st := d__law_take.st) xl6 xc6 xk6) (fun _ _ _ _ _ _ us hl => match us, hl with | [_, _], _ => rfl) ?_
      intro p hp hx
      simp only [T, List.mem_cons, List.not_mem_nil, or_false] at hp
      rcases hp with rfl | rfl
      · exact absurd hx (by decide +kernel)
      · exact absurd hx (by decide +kernel)
    · refine VS.stand_of (PySem.W.mg_of X G xa7) (L2.fun_mk (st := d__law_words.st) xl7 xc7 xk7) (fun _ _ _ _ _ _ us hl => match us, hl with | [_, _], _ => rfl) ?_
      intro p hp hx
      simp only [T, List.mem_cons, List.not_mem_nil, or_false] at hp
      rcases hp with rfl | rfl
      · exact absurd hx (by decide +kernel)
      · exact absurd hx (by decide +kernel)
    · refine VS.stand_of (PySem.W.mg_of X G xa8) (L2.fun_mk (st := d__law_kit.st) xl8 xc8 xk8) (fun _ _ _ _ _ _ us hl => match us, hl with | [_], _ => rfl) ?_
      intro p hp hx
      simp only [T, List.mem_cons, List.not_mem_nil, or_false] at hp
      rcases hp with rfl | rfl
      · exact absurd hx (by decide +kernel)
      · exact absurd hx (by decide +kernel)
    · refine VS.stand_of (PySem.W.mg_of X G xa9) (L2.fun_mk (st := d__law_grown.st) xl9 xc9 xk9) (fun _ _ _ _ _ _ us hl => match us, hl with | [_, _, _, _], _ => rfl) ?_
      intro p hp hx
      simp only [T, List.mem_cons, List.not_mem_nil, or_false] at hp
      rcases hp with rfl | rfl
      · exact absurd hx (by decide +kernel)
      · exact absurd hx (by decide +kernel)
    · refine VS.stand_of (PySem.W.mg_of X G xa10) (L2.fun_mk (st := d__law_term.st) xl10 xc10 xk10) (fun _ _ _ _ _ _ us hl => match us, hl with | [_, _], _ => rfl) ?_
      intro p hp hx
      simp only [T, List.mem_cons, List.not_mem_nil, or_false] at hp
      rcases hp with rfl | rfl
      · exact absurd hx (by decide +kernel)
      · exact absurd hx (by decide +kernel)
    · refine VS.stand_of (PySem.W.mg_of X G xa11) (L2.fun_mk (st := d__law_inside.st) xl11 xc11 xk11) (fun _ _ _ _ _ _ us hl => match us, hl with | [_], _ => rfl) ?_
      intro p hp hx
      simp only [T, List.mem_cons, List.not_mem_nil, or_false] at hp
      rcases hp with rfl | rfl
      · exact absurd hx (by decide +kernel)
      · exact absurd hx (by decide +kernel)
    · refine VS.stand_of (PySem.W.mg_of X G xa12) (L2.fun_mk (st := d__law_spots.st) xl12 xc12 xk12) (fun _ _ _ _ _ _ us hl => match us, hl with | [_], _ => rfl) ?_
      intro p hp hx
      simp only [T, List.mem_cons, List.not_mem_nil, or_false] at hp
      rcases hp with rfl | rfl
      · exact absurd hx (by decide +kernel)
      · exact absurd hx (by decide +kernel)
    · refine VS.stand_of (PySem.W.mg_of X G xa13) (L2.fun_mk (st := d_law.st) xl13 xc13 xk13) (fun _ _ _ _ _ _ us hl => match us, hl with | [_], _ => rfl) ?_
      intro p hp hx
      simp only [T, List.mem_cons, List.not_mem_nil, or_false] at hp
      rcases hp with rfl | rfl
      · exact absurd hx (by decide +kernel)
      · exact absurd hx (by decide +kernel)
  · intro x hx
    simp only [T, List.mem_cons, List.not_mem_nil, or_false] at hx
    rcases hx with rfl | rfl | rfl | rfl | rfl | rfl | rfl | rfl | rfl | rfl
    · exact PySem.W.mg_none_of X G xz0
    · exact PySem.W.mg_none_of X G xz1
    · exact PySem.W.mg_none_of X G xz2
    · exact PySem.W.mg_none_of X G xz3
    · exact PySem.W.mg_none_of X G xz4
    · exact PySem.W.mg_none_of X G xz5
    · exact PySem.W.mg_none_of X G xz6
    · exact PySem.W.mg_none_of X G xz7
    · exact PySem.W.mg_none_of X G xz8
    · exact PySem.W.mg_none_of X G xz9
theorem walk {l : PySem.W.OpenLaw} {q : Program} {loose : List Str} {XP : (Str → Option Value) → Heap → Prop} {YP : World → Heap → Prop} {d : DefRec} {K : Params → PySem.W.Frag} (hn : l.most = some 63) (hdf : d.params.defaults = []) (hx : ("law" : Str) = d.name)
    (hY : ∀ (w : World) (h : Heap), YP w h → (K w.params).In h)
    (hs : ∀ (w : World) (mg : Str → Option Value) (h : Heap), (K w.params).In h → h.Ns mainGlobals mg → (∀ D ∈ T.ds, VS.Stands (K w.params) mg T D) ∧ ∀ x ∈ T.bs, mg x = none) :
    PySem.W.WalkO q loose XP YP l.row.toRowW d [] (fun f vs => PySem.call f vs) :=
  VS.walk_g (k := 40) (W := 1000) (T := T) (D := d_law) (x := "_law_script") hn hdf ⟨rfl, by decide, by decide⟩ hY ok (by unfold T; simp) rfl hx hs (fun K f fd F s u => by
    obtain ⟨oc, od, kV, doc, pm, an, cd, ct, osl, rfl, e1, e2⟩ := F.ex
    exact .of_eq rfl) law_true
end Own
open PySem PySem.W PyProof.Rows
set_option maxRecDepth 100000 in
set_option maxHeartbeats 0 in
theorem PySem.Challenge.cw_likebeneath_k16_parts_and_names_above_holds : PySem.Challenge.rw_likebeneath_k16_parts_and_names_above.Holds := by
  w_on; o_law; k_head; (case hw => w_witness2)
  k_fill
  refine Own.walk (l := PySem.Challenge.rw_likebeneath_k16_parts_and_names_above) rfl rfl rfl (fun w h Y => PySem.W.kIn_of Y) ?F
  case F =>
    intro w mg h KX G
    refine' Own.stands KX G ?xa0 ?xl0 ?xc0 ?xk0 ?xa1 ?xl1 ?xc1 ?xk1 ?xa2 ?xl2 ?xc2 ?xk2 ?xa3 ?xl3 ?xc3 ?xk3 ?xa4 ?xl4 ?xc4 ?xk4 ?xa5 ?xl5 ?xc5 ?xk5 ?xa6 ?xl6 ?xc6 ?xk6 ?xa7 ?xl7 ?xc7 ?xk7 ?xa8 ?xl8 ?xc8 ?xk8 ?xa9 ?xl9 ?xc9 ?xk9 ?xa10 ?xl10 ?xc10 ?xk10 ?xa11 ?xl11 ?xc11 ?xk11 ?xa12 ?xl12 ?xc12 ?xk12 ?xa13 ?xl13 ?xc13 ?xk13 ?xz0 ?xz1 ?xz2 ?xz3 ?xz4 ?xz5 ?xz6 ?xz7 ?xz8 ?xz9
    (case xa0 => k_is)
    (case xl0 => k_is)
    (case xc0 => k_is)
    (case xk0 => k_is)
    (case xa1 => k_is)
    (case xl1 => k_is)
    (case xc1 => k_is)
    (case xk1 => k_is)
    (case xa2 => k_is)
    (case xl2 => k_is)
    (case xc2 => k_is)
    (case xk2 => k_is)
    (case xa3 => k_is)
    (case xl3 => k_is)
    (case xc3 => k_is)
    (case xk3 => k_is)
    (case xa4 => k_is)
    (case xl4 => k_is)
    (case xc4 => k_is)
    (case xk4 => k_is)
    (case xa5 => k_is)
    (case xl5 => k_is)
    (case xc5 => k_is)
    (case xk5 => k_is)
    (case xa6 => k_is)
    (case xl6 => k_is)
    (case xc6 => k_is)
    (case xk6 => k_is)
    (case xa7 => k_is)
    (case xl7 => k_is)
    (case xc7 => k_is)
    (case xk7 => k_is)
    (case xa8 => k_is)
    (case xl8 => k_is)
    (case xc8 => k_is)
    (case xk8 => k_is)
    (case xa9 => k_is)
    (case xl9 => k_is)
    (case xc9 => k_is)
    (case xk9 => k_is)
    (case xa10 => k_is)
    (case xl10 => k_is)
    (case xc10 => k_is)
    (case xk10 => k_is)
    (case xa11 => k_is)
    (case xl11 => k_is)
    (case xc11 => k_is)
    (case xk11 => k_is)
    (case xa12 => k_is)
    (case xl12 => k_is)
    (case xc12 => k_is)
    (case xk12 => k_is)
    (case xa13 => k_is)
    (case xl13 => k_is)
    (case xc13 => k_is)
    (case xk13 => k_is)
    (case xz0 => k_is)
    (case xz1 => k_is)
    (case xz2 => k_is)
    (case xz3 => k_is)
    (case xz4 => k_is)
    (case xz5 => k_is)
    (case xz6 => k_is)
    (case xz7 => k_is)
    (case xz8 => k_is)
    (case xz9 => k_is)
