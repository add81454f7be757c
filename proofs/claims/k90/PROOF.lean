import PyProof.Rows.All
import Wide.All
import OpenK.AllK
import Wide.FinOn
import HandS.ForExc
import HandS.ForMost
import HandS.Codes
import HandS.Flow
import HandS.Star
import HandS.FStr
import HandS.IsInst
import HandS.Deep
import HandS.Wide
import HandS.TupAny
import HandS.Zip
import HandS.RevRange
import HandS.Style
import HandS.Defaults
import HandS.MakeKwOnly
import HandS.ExcInit
import HandS.ExcField
import HandS.ExcSuper
import HandS.ExcIs
import KE.KExcSuper
import HandS.HeadWalk
import KE.KExcIs
import HandS.HeadHook4
import HandS.ExcValue
import HandS.RaiseMore
import HandS.HotCalls
import HandS.Head0
import HandS.Head1
import HandS.Head2
import HandS.HeadEnd
import PySem.Challenge.RW_onesession_k90_errors_apart
section
/-! Ev: a small evaluator for the fragment of Python that the program and its laws are written in. Values are trees; mutable things stand in a store. -/
set_option linter.all false
set_option autoImplicit false
namespace Ev

/-- data: trees -/
inductive D where
  | non
  | bl (b : Bool)
  | int (i : Int)
  | str (s : List Char)
  | tup (l : List D)
  | obj (C : String) (fs : List (String × D))
  | fn (x : String)
  deriving Repr, Inhabited

mutual
def D.beq : D → D → Bool
  | .non, .non => true
  | .bl a, .bl b => a == b
  | .int a, .int b => a == b
  | .str a, .str b => a == b
  | .tup a, .tup b => D.beqL a b
  | .obj C a, .obj E b => C == E && D.beqF a b
  | .fn a, .fn b => a == b
  | _, _ => false
def D.beqL : List D → List D → Bool
  | [], [] => true
  | a :: as, b :: bs => D.beq a b && D.beqL as bs
  | _, _ => false
def D.beqF : List (String × D) → List (String × D) → Bool
  | [], [] => true
  | (x, a) :: as, (y, b) :: bs => x == y && D.beq a b && D.beqF as bs
  | _, _ => false
end
mutual
theorem D.beq_iff : ∀ a b : D, D.beq a b = true ↔ a = b
  | .non, b => by cases b <;> simp [D.beq]
  | .bl a, b => by cases b <;> simp [D.beq]
  | .int a, b => by cases b <;> simp [D.beq]
  | .str a, b => by cases b <;> simp [D.beq]
  | .tup a, b => by cases b <;> simp [D.beq, D.beqL_iff a]
  | .obj C a, b => by cases b <;> simp [D.beq, D.beqF_iff a]
  | .fn a, b => by cases b <;> simp [D.beq]
theorem D.beqL_iff : ∀ a b : List D, D.beqL a b = true ↔ a = b
  | [], b => by cases b <;> simp [D.beqL]
  | a :: as, b => by cases b <;> simp [D.beqL, D.beq_iff a, D.beqL_iff as]
theorem D.beqF_iff : ∀ a b : List (String × D), D.beqF a b = true ↔ a = b
  | [], b => by cases b <;> simp [D.beqF]
  | (x, a) :: as, b => by
    cases b with
    | nil => simp [D.beqF]
    | cons q bs =>
      obtain ⟨y, b⟩ := q
      simp [D.beqF, D.beq_iff a, D.beqF_iff as, and_assoc]
end
instance : DecidableEq D := fun a b => decidable_of_iff _ (D.beq_iff a b)

/-- values: data, or a place of the store -/
inductive W where
  | d (x : D)
  | r (n : Nat)
  deriving Repr, DecidableEq, Inhabited
instance : Coe D W := ⟨W.d⟩

/-- what stands in the store -/
inductive Ob where
  | lst (l : List W)
  | fro (l : List W)
  | ins (C : String) (fs : List (String × W))
  | dic (kvs : List (D × W))
  | exc (C : String) (fs : List (String × W))
  deriving Repr, DecidableEq, Inhabited
abbrev Store := List Ob
abbrev En := List (Option W)

structure Exn where
  C : String
  fs : List (String × W)
  deriving Repr, DecidableEq

/-- results -/
inductive R (α : Type) where
  | ok (a : α) (S : Store)
  | err (x : Exn) (S : Store)
  | no
  deriving Repr
/-- a mark that hangs on a value: simp leaves the value alone -/
inductive Tag {α : Type} (a : α) : Type where
  | mk
def R.bind {α β : Type} (r : R α) (f : α → Store → R β) (_h : Tag f := .mk) : R β := match r with
  | .ok a S => f a S
  | .err x S => .err x S
  | .no => .no
@[simp] theorem R.bind_ok {α β : Type} (a : α) (S : Store) (f : α → Store → R β) : R.bind (.ok a S) f = f a S := rfl
@[simp] theorem R.bind_err {α β : Type} (x : Exn) (S : Store) (f : α → Store → R β) : R.bind (.err x S : R α) f = .err x S := rfl
@[simp] theorem R.bind_no {α β : Type} (f : α → Store → R β) : R.bind (.no : R α) f = .no := rfl
/-- a partial pure step -/
def R.opt {α : Type} (o : Option α) (S : Store) : R α := match o with
  | some a => .ok a S
  | none => .no
@[simp] theorem R.opt_some {α : Type} (a : α) (S : Store) : R.opt (some a) S = .ok a S := rfl
@[simp] theorem R.opt_none {α : Type} (S : Store) : R.opt (none : Option α) S = .no := rfl

/-! ### the syntax -/
/-- targets -/
inductive T where
  | n (i : Nat)
  | t (l : List T)
  deriving Repr
/-- operators of one, two operands -/
inductive O1 where
  | neg | len | int_ | abs_ | str_ | tuple_ | list_ | sum_ | all_ | any_ | min_ | max_ | isNone | notNone | rev | bool_
  deriving Repr, DecidableEq
inductive O2 where
  | add | sub | mul | fdiv | mod | pow | idx | eq | ne | lt | le | gt | ge | isin | notin | join | split | index | min2 | max2
  deriving Repr, DecidableEq
inductive Ty where
  | int | bool | str | tuple | list | cls (C : String)
  deriving Repr, DecidableEq
mutual
/-- expressions -/
inductive E where
  | v (i : Nat)
  | k (c : D)
  | g (x : String)
  | tup (es : Es)
  | lst (es : Es)
  | o1 (o : O1) (a : E)
  | o2 (o : O2) (a b : E)
  | ch (o p : O2) (a b c : E)
  | sl (a lo hi : E)
  | isi (a : E) (t : Ty)
  | and (a b : E)
  | or (a b : E)
  | not (a : E)
  | ite (c a b : E)
  | at (a : E) (f : String)
  | call (f : String) (es : Es)
  | meth (C m : String) (o : E) (es : Es)
  | mk (C : String) (n : Nat) (ks : List String) (es : Es)
  | lc (elt : E) (t : T) (it : It) (ifs : Es)
  | onl (o : O1) (l : E)
  | joinl (sep : E) (l : E)
  | inl (neg : Bool) (x l : E)
  | fs (es : Es)
  | app (l x : E)
  | ext (l x : E)
  | pop (l : E)
  | popi (l i : E)
  | insz (l x : E)
  | exf (i : Nat) (f : String)
  | mkx (C : String) (es : Es)
  | callx (f : String) (i : Nat)
/-- lists of expressions, some starred -/
inductive Es where
  | nil
  | cons (e : E) (r : Es)
  | star (e : E) (r : Es)
/-- what is walked -/
inductive It where
  | of (e : E)
  | rng1 (a : E)
  | rng2 (a b : E)
  | revr (a : E)
  | enum (e : E)
  | zip (a b : E)
end
/-- statements -/
inductive S where
  | nil
  | seq (a b : S)
  | set (t : T) (e : E)
  | setA (o : E) (f : String) (e : E)
  | setI (o i : E) (e : E)
  | aug (i : Nat) (o : O2) (e : E)
  | ex (e : E)
  | ret (e : E)
  | if_ (c : E) (a b : S)
  | for_ (t : T) (it : It) (b : S)
  | while_ (c : E) (b : S)
  | raise (C : String) (es : Es)
  | raiseN (C : String) (es : Es)
  | try_ (b : S) (C : String) (n : Option Nat) (h : S)
  | brk
  | cont
end Ev
namespace Ev
/-! ### values -/
def LINE : Nat := 16777216
mutual
/-- plain data, nested at most n deep -/
def D.dat : D → Nat → Bool
  | .non, _ => true
  | .bl _, _ => true
  | .int _, _ => true
  | .str _, _ => true
  | .tup _, 0 => false
  | .tup l, n + 1 => D.datL l n
  | .obj _ _, _ => false
  | .fn _, _ => false
def D.datL : List D → Nat → Bool
  | [], _ => true
  | x :: xs, n => D.dat x n && D.datL xs n
end
mutual
/-- == of data -/
def D.eqv : D → D → Bool
  | .bl a, .int j => (if a then 1 else 0) == j
  | .int i, .bl b => i == (if b then 1 else 0)
  | .tup a, .tup b => D.eqvL a b
  | .non, .non => true
  | .bl a, .bl b => a == b
  | .int a, .int b => a == b
  | .str a, .str b => a == b
  | _, _ => false
def D.eqvL : List D → List D → Bool
  | [], [] => true
  | a :: as, b :: bs => D.eqv a b && D.eqvL as bs
  | _, _ => false
end
/-- all are data -/
def toD : List W → Option (List D)
  | [] => some []
  | .d x :: r => (toD r).map (x :: ·)
  | _ :: _ => none
def digs (i : Int) : List Char := (toString i).toList
/-- the place of an index -/
def ixN (n : Nat) (i : Int) : Option Nat := if 0 ≤ i then (if i < n then some i.toNat else none) else if -(n : Int) ≤ i then some (i + n).toNat else none
/-- the place of a slice's bound -/
def sIx (n d : Nat) : Option Int → Nat
  | none => d
  | some i => if i < 0 then (i + n).toNat else min i.toNat n
def cut {α : Type} (xs : List α) (lo hi : Option Int) : List α := (xs.drop (sIx xs.length 0 lo)).take (sIx xs.length xs.length hi - sIx xs.length 0 lo)
def joinT (sep : List Char) : List (List Char) → List Char
  | [] => []
  | [x] => x
  | x :: y :: r => x ++ sep ++ joinT sep (y :: r)
def joinSz (sep : List Char) : List (List Char) → Nat
  | [] => 0
  | x :: r => x.length + sep.length + joinSz sep r
def toStr : List D → Option (List (List Char))
  | [] => some []
  | .str x :: r => (toStr r).map (x :: ·)
  | _ :: _ => none
def toInt : List D → Option (List Int)
  | [] => some []
  | .int x :: r => (toInt r).map (x :: ·)
  | _ :: _ => none
def toBl : List D → Option (List Bool)
  | [] => some []
  | .bl x :: r => (toBl r).map (x :: ·)
  | _ :: _ => none
def minI : List Int → Option Int
  | [] => none
  | x :: r => some (r.foldl (fun a b => if b < a then b else a) x)
def maxI : List Int → Option Int
  | [] => none
  | x :: r => some (r.foldl (fun a b => if a < b then b else a) x)
/-- the first place of an equal one -/
def findD (x : D) : List D → Option Nat
  | [] => none
  | y :: r => if D.eqv y x then some 0 else (findD x r).map (· + 1)
/-! ### operators -/
/-- the items of a list or a tuple -/
def seqOf (S : Store) : W → Option (List W)
  | .d (.tup l) => some (l.map W.d)
  | .r n => match S[n]? with
    | some (.lst l) => some l
    | some (.fro l) => some l
    | _ => none
  | _ => none
/-- .. of a tuple or a list that is no given one -/
def extOf (S : Store) : W → Option (List W)
  | .d (.tup l) => some (l.map W.d)
  | .r n => match S[n]? with
    | some (.lst l) => some l
    | _ => none
  | _ => none
def dseq (S : Store) (w : W) : Option (List D) := (seqOf S w).bind toD
def truth (S : Store) : W → Option Bool
  | .d (.bl b) => some b
  | .r n => match S[n]? with
    | some (.lst l) => some (!l.isEmpty)
    | some (.fro l) => some (!l.isEmpty)
    | _ => none
  | _ => none
def newL (l : List W) (S : Store) : R W := if l.length ≤ LINE then .ok (.r S.length) (S ++ [.lst l]) else .no
def blR (b : Bool) (S : Store) : R W := .ok (.d (.bl b)) S

def op1 (o : O1) (w : W) (S : Store) : R W := match o with
  | .neg => match w with
    | .d (.int i) => .ok (.d (.int (-i))) S
    | _ => .no
  | .len => match w with
    | .d (.str s) => if s.length ≤ LINE then .ok (.d (.int s.length)) S else .no
    | w => match seqOf S w with
      | some l => .ok (.d (.int l.length)) S
      | none => .no
  | .int_ => match w with
    | .d (.int i) => .ok (.d (.int i)) S
    | .d (.bl b) => .ok (.d (.int (if b then 1 else 0))) S
    | _ => .no
  | .bool_ => match w with
    | .d (.bl b) => .ok (.d (.bl b)) S
    | _ => .no
  | .abs_ => match w with
    | .d (.int i) => .ok (.d (.int (if i < 0 then -i else i))) S
    | _ => .no
  | .str_ => match w with
    | .d (.int i) => if i.natAbs.log2 < 1920 then .ok (.d (.str (digs i))) S else .no
    | .d (.str s) => .ok (.d (.str s)) S
    | _ => .no
  | .tuple_ => match dseq S w with
    | some l => .ok (.d (.tup l)) S
    | none => .no
  | .list_ => match seqOf S w with
    | some l => newL l S
    | none => .no
  | .sum_ => match (dseq S w).bind toInt with
    | some l => .ok (.d (.int l.sum)) S
    | none => .no
  | .all_ => match w, (dseq S w).bind toBl with
    | .r _, some l => .ok (.d (.bl (l.all id))) S
    | _, _ => .no
  | .any_ => match w, (dseq S w).bind toBl with
    | .r _, some l => .ok (.d (.bl (l.any id))) S
    | _, _ => .no
  | .min_ => match w, ((dseq S w).bind toInt).bind minI with
    | .r _, some i => .ok (.d (.int i)) S
    | _, _ => .no
  | .max_ => match w, ((dseq S w).bind toInt).bind maxI with
    | .r _, some i => .ok (.d (.int i)) S
    | _, _ => .no
  | .isNone => .ok (.d (.bl (decide (w = .d .non)))) S
  | .notNone => .ok (.d (.bl (!decide (w = .d .non)))) S
  | .rev => match w with
    | .r n => match S[n]? with
      | some (.lst l) => newL l.reverse S
      | _ => .no
    | _ => .no

/-- operators that are calls -/
def isCall : O1 → Bool
  | .neg => false
  | .isNone => false
  | .notNone => false
  | .rev => false
  | _ => true
def isCall2 : O2 → Bool
  | .min2 => true
  | .max2 => true
  | _ => false
def isStr : W → Bool
  | .d (.str _) => true
  | _ => false
def isLst (S : Store) : W → Bool
  | .r n => match S[n]? with
    | some (.lst _) => true
    | _ => false
  | _ => false
/-- what a method is asked of, ahead of its arguments -/
def recv (o : O2) (x : W) (S : Store) : Bool := match o with
  | .join => isStr x
  | .index => isLst S x
  | _ => true
def cmpI (o : O2) (i j : Int) : Option Bool := match o with
  | .lt => some (decide (i < j))
  | .le => some (decide (i ≤ j))
  | .gt => some (decide (j < i))
  | .ge => some (decide (j ≤ i))
  | _ => none
/-- data on both sides, comparable -/
def eqW (S : Store) (a b : W) : Option Bool := match a, b with
  | .d x, .d y => if x.dat 64 && y.dat 64 then some (D.eqv x y) else none
  | a@(.r _), b@(.r _) => match dseq S a, dseq S b with
    | some xs, some ys => if D.datL xs 63 && D.datL ys 63 then some (D.eqvL xs ys) else none
    | _, _ => none
  | _, _ => none
def inW (S : Store) (a b : W) : Option Bool := match a, b with
  | .d (.str x), .d (.str y) => (match x with
    | [c] => some (y.contains c)
    | _ => none)
  | .d x, b => match dseq S b with
    | some l => if x.dat 64 && D.datL l 63 then some (l.any fun y => D.eqv y x) else none
    | none => none
  | _, _ => none
def op2 (o : O2) (a b : W) (S : Store) : R W := match o with
  | .add => match a, b with
    | .d (.int i), .d (.int j) => .ok (.d (.int (i + j))) S
    | .d (.str x), .d (.str y) => if x.length + y.length ≤ LINE then .ok (.d (.str (x ++ y))) S else .no
    | .d (.tup x), .d (.tup y) => if x.length + y.length ≤ LINE then .ok (.d (.tup (x ++ y))) S else .no
    | .r m, .r n => match S[m]?, S[n]? with
      | some (.lst x), some (.lst y) => newL (x ++ y) S
      | _, _ => .no
    | _, _ => .no
  | .sub => match a, b with
    | .d (.int i), .d (.int j) => .ok (.d (.int (i - j))) S
    | _, _ => .no
  | .mul => match a, b with
    | .d (.int i), .d (.int j) => if (-(2 ^ 64) < i ∧ i < 2 ^ 64) ∨ (-(2 ^ 64) < j ∧ j < 2 ^ 64) then .ok (.d (.int (i * j))) S else .no
    | _, _ => .no
  | .fdiv => match a, b with
    | .d (.int i), .d (.int j) => if 0 < j ∧ j < 2 ^ 9000 then .ok (.d (.int (i / j))) S else .no
    | _, _ => .no
  | .mod => match a, b with
    | .d (.int i), .d (.int j) => if 0 < j ∧ j < 2 ^ 9000 then .ok (.d (.int (i % j))) S else .no
    | _, _ => .no
  | .pow => match a, b with
    | .d (.int i), .d (.int j) => if 0 ≤ j ∧ j ≤ 1000000 ∧ i.natAbs < 2 ^ 64 then .ok (.d (.int (i ^ j.toNat))) S else .no
    | _, _ => .no
  | .idx => match a, b with
    | .d (.str s), .d (.int i) => if s.length ≤ LINE then (match (ixN s.length i).bind (s[·]?) with
      | some c => .ok (.d (.str [c])) S
      | none => .no) else .no
    | a, .d (.int i) => match seqOf S a with
      | some l => (match (ixN l.length i).bind (l[·]?) with
        | some w => .ok w S
        | none => .no)
      | none => .no
    | _, _ => .no
  | .eq => match eqW S a b with
    | some c => .ok (.d (.bl c)) S
    | none => .no
  | .ne => match eqW S a b with
    | some c => .ok (.d (.bl (!c))) S
    | none => .no
  | .isin => match inW S a b with
    | some c => .ok (.d (.bl c)) S
    | none => .no
  | .notin => match inW S a b with
    | some c => .ok (.d (.bl (!c))) S
    | none => .no
  | .join => match a, (dseq S b).bind toStr with
    | .d (.str s), some l => if joinSz s l ≤ LINE then .ok (.d (.str (joinT s l))) S else .no
    | _, _ => .no
  | .index => match b, dseq S a with
    | .d x, some l => if x.dat 64 && D.datL l 63 then (match findD x l with
      | some n => .ok (.d (.int n)) S
      | none => .no) else .no
    | _, _ => .no
  | .min2 => match a, b with
    | .d (.int i), .d (.int j) => .ok (.d (.int (if j < i then j else i))) S
    | _, _ => .no
  | .max2 => match a, b with
    | .d (.int i), .d (.int j) => .ok (.d (.int (if j > i then j else i))) S
    | _, _ => .no
  | .split => .no
  | o => match a, b with
    | .d (.int i), .d (.int j) => (match cmpI o i j with
      | some c => .ok (.d (.bl c)) S
      | none => .no)
    | _, _ => .no

def part (noPart : Bool) (w : W) : Option (Option Int) := if noPart then some none else match w with
  | .d (.int i) => some (some i)
  | _ => none
def slW (a : W) (l h : Option Int) (S : Store) : R W := match a with
  | .d (.tup xs) => .ok (.d (.tup (cut xs l h))) S
  | .d (.str xs) => if xs.length ≤ LINE then .ok (.d (.str (cut xs l h))) S else .no
  | .r n => (match seqOf S (.r n) with
    | some xs => .ok (.r S.length) (S ++ [.lst (cut xs l h)])
    | none => .no)
  | _ => .no
def isiW (isx : String → String → Option Bool) (w : W) (t : Ty) (S : Store) : Option Bool := match w, t with
  | .d (.obj _ _), _ => none
  | .d (.fn _), _ => none
  | .r n, .cls C => match S[n]? with
    | some (.exc C' _) => isx C' C
    | _ => none
  | _, .cls _ => none
  | .d (.int _), t => some (t == .int)
  | .d (.bl _), t => some (t == .int || t == .bool)
  | .d (.str _), t => some (t == .str)
  | .d (.tup _), t => some (t == .tuple)
  | .d .non, _ => some false
  | .r n, t => match S[n]? with
    | some (.lst _) => some (t == .list)
    | _ => none
def fmt : W → Option (List Char)
  | .d (.str s) => if s.length ≤ LINE then some s else none
  | .d (.int i) => if i.natAbs.log2 < 1920 then some (digs i) else none
  | _ => none
def attW (fld fldX : String → String → Bool) (a : W) (f : String) (S : Store) : Option W := match a with
  | .d (.obj C fs) => if fld C f then (fs.lookup f).map W.d else none
  | .r n => match S[n]? with
    | some (.ins C fs) => if fld C f then fs.lookup f else none
    | some (.exc C fs) => if fldX C f then fs.lookup f else none
    | _ => none
  | _ => none
/-- an object of the class C, with no such field of its own -/
def recvM (C m : String) (w : W) (S : Store) : Bool := match w with
  | .d (.obj C' fs) => C' == C && (fs.lookup m).isNone
  | .r n => match S[n]? with
    | some (.ins C' fs) => C' == C && (fs.lookup m).isNone
    | _ => false
  | _ => false
def putF (f : String) (v : W) : List (String × W) → List (String × W)
  | [] => [(f, v)]
  | (g, w) :: r => if g == f then (g, v) :: r else (g, w) :: putF f v r

/-- no part of a slice -/
def isNone : E → Bool
  | .k .non => true
  | _ => false
/-! ### names -/
mutual
def T.put : T → W → En → Option En
  | .n i, w, e => if i < e.length then some (e.set i (some w)) else none
  | .t ts, w, e => match w with
    | .d (.tup l) => T.putL ts (l.map W.d) e
    | _ => none
def T.putL : List T → List W → En → Option En
  | [], [], e => some e
  | p :: ps, w :: ws, e => (T.put p w e).bind fun e' => T.putL ps ws e'
  | _, _, _ => none
end
mutual
def T.ix : T → List Nat
  | .n i => [i]
  | .t ts => T.ixL ts
def T.ixL : List T → List Nat
  | [] => []
  | u :: us => T.ix u ++ T.ixL us
end
def T.tup : T → Bool
  | .n _ => false
  | .t _ => true
/-- what a turn of a walk gives: a value, or several in a row (a new tuple) -/
inductive TV where
  | one (w : W)
  | many (l : List W)
def TV.put (p : T) : TV → En → Option En
  | .one w, e => T.put p w e
  | .many l, e => match p with
    | .t ts => T.putL ts l e
    | .n _ => none
/-- lists that must stay while they are walked -/
abbrev Guard := List (Nat × List W)
def Guard.ok (S : Store) : Guard → Bool
  | [] => true
  | (n, l) :: r => (decide (S[n]? = some (.lst l)) || decide (S[n]? = some (.fro l))) && Guard.ok S r
def walkW (w : W) (S : Store) : Option (List W × Guard) := match w with
  | .d (.str s) => some (s.map fun c => W.d (.str [c]), [])
  | .d (.tup l) => some (l.map W.d, [])
  | .r n => match S[n]? with
    | some (.lst l) => some (l, [(n, l)])
    | some (.fro l) => some (l, [(n, l)])
    | _ => none
  | _ => none
/-- a tuple or a list: is it a tuple, its items -/
def pairW (w : W) (S : Store) : Option (Bool × List W × Guard) := match w with
  | .d (.tup l) => some (true, l.map W.d, [])
  | .r n => match S[n]? with
    | some (.lst l) => some (false, l, [(n, l)])
    | some (.fro l) => some (false, l, [(n, l)])
    | _ => none
  | _ => none
def rangeW (lo : Int) (n : Nat) : List TV := (List.range n).map fun (i : Nat) => TV.one (.d (.int (lo + i)))
def enumW (l : List W) : List TV := l.zipIdx.map fun p => TV.many [.d (.int (p.2 : Nat)), p.1]
def zipW (a b : List W) : List TV := (a.zip b).map fun p => TV.many [p.1, p.2]
def B62 (i : Int) : Bool := decide (-(2 ^ 62) ≤ i) && decide (i < 2 ^ 62)

def W.lt (n : Nat) : W → Bool
  | .d _ => true
  | .r m => decide (m < n)
/-! ### the evaluator -/
inductive Fl where
  | nx (e : En)
  | rt (w : W)
  | bk (e : En)
  | ct (e : En)
  deriving Repr
/-- what runs around: the calls, the module's constants, the turns of a while -/
structure Cx where
  call : String → String → List W → Store → R W
  make : String → Nat → List String → List W → Store → R W
  defs : String → String → Bool
  mks : String → Bool
  fld : String → String → Bool
  fldX : String → String → Bool
  glob : String → Option D
  exn : String → Option (List String)
  sub : String → String → Option Bool
  isx : String → String → Option Bool
  hot : String → Exn → Store → R W
  fuel : Nat
  cur : Option (Exn × Nat)
  calm : Bool
/-- the name that holds the exception at hand -/
def curC (cur : Option (Exn × Nat)) (a : E) : Option Exn := match cur with
  | none => none
  | some (x, j) => match a with
    | .v i => if i = j then some x else none
    | _ => none
def isXt (isx : String → String → Option Bool) (x : Exn) : Ty → Option Bool
  | .cls C => isx x.C C
  | _ => none

/-- a comprehension's turns -/
def lcLoop (f : TV → Store → R (Option W)) (g : Guard) : List TV → List W → Store → R (List W)
  | [], acc, S => if Guard.ok S g then .ok acc S else .no
  | t :: ts, acc, S => if Guard.ok S g then (match f t S with
    | .ok none S' => lcLoop f g ts acc S'
    | .ok (some w) S' => if acc.length < LINE then lcLoop f g ts (acc ++ [w]) S' else .no
    | _ => .no) else .no
/-- a for's turns -/
def forLoop (f : TV → En → Store → R Fl) (g : Guard) : List TV → En → Store → R Fl
  | [], e, S => if Guard.ok S g then .ok (.nx e) S else .no
  | t :: ts, e, S => if Guard.ok S g then (match f t e S with
    | .ok (.nx e') S' => forLoop f g ts e' S'
    | .ok (.ct e') S' => forLoop f g ts e' S'
    | .ok (.bk e') S' => .ok (.nx e') S'
    | r => r) else .no
/-- a while's turns -/
def whileLoop (c : En → Store → R Bool) (f : En → Store → R Fl) : Nat → En → Store → R Fl
  | 0, _, _ => .no
  | n + 1, e, S => match c e S with
    | .ok true S1 => (match f e S1 with
      | .ok (.nx e') S' => whileLoop c f n e' S'
      | .ok (.ct e') S' => whileLoop c f n e' S'
      | .ok (.bk e') S' => .ok (.nx e') S'
      | r => r)
    | .ok false S1 => .ok (.nx e) S1
    | .err x S1 => .err x S1
    | .no => .no
def tests (ts : List (Store → R Bool)) (S : Store) : R Bool := match ts with
  | [] => .ok true S
  | t :: r => (t S).bind fun b S' => if b then tests r S' else .ok false S'

/-- a test's answer -/
def tst (t : Bool) (r : R W) : R W := if t then r.bind (fun w S => match truth S w with
  | some b => .ok (.d (.bl b)) S
  | none => .no) else r
@[simp] theorem tst_f (r : R W) : tst false r = r := rfl
mutual
/-- an expression; t: as a test (its truth) -/
def dX (c : Cx) : E → Bool → En → Store → R W
  | .v i, t, e, S => tst t (match e[i]? with
    | some (some w) => .ok w S
    | _ => .no)
  | .k x, t, _, S => tst t (.ok (.d x) S)
  | .g x, t, _, S => tst t (match c.glob x with
    | some x => .ok (.d x) S
    | none => .no)
  | .tup es, t, e, S => tst t ((dEs c es e S).bind fun ws S1 => if ws.length ≤ LINE then (match toD ws with
    | some l => .ok (.d (.tup l)) S1
    | none => .no) else .no)
  | .lst es, t, e, S => tst t ((dEs c es e S).bind fun ws S1 => newL ws S1)
  | .o1 o a, t, e, S => tst t (if isCall o && !c.calm then .no else (dX c a false e S).bind fun w S1 => op1 o w S1)
  | .o2 o a b, t, e, S => tst t (if isCall2 o && !c.calm then .no else (dX c a false e S).bind fun x S1 => if recv o x S1 then (dX c b false e S1).bind fun y S2 => op2 o x y S2 else .no)
  | .ch o p a b d, t, e, S => tst t ((dX c a false e S).bind fun x S1 => (dX c b false e S1).bind fun y S2 => (op2 o x y S2).bind fun z S3 => (match z with
    | .d (.bl true) => (dX c d false e S3).bind fun u S4 => op2 p y u S4
    | .d (.bl false) => .ok (.d (.bl false)) S3
    | _ => .no))
  | .sl a lo hi, t, e, S => tst t ((dX c a false e S).bind fun x S1 => (dX c lo false e S1).bind fun l S2 => (match part (isNone lo) l with
    | none => .no
    | some pl => (dX c hi false e S2).bind fun h S3 => (match part (isNone hi) h with
      | none => .no
      | some ph => slW x pl ph S3)))
  | .isi a ty, t, e, S => tst t (match curC c.cur a with
    | some x => R.opt ((isXt c.isx x ty).map fun b => W.d (.bl b)) S
    | none => (dX c a false e S).bind fun w S1 => (match isiW c.isx w ty S1 with
      | some b => .ok (.d (.bl b)) S1
      | none => .no))
  | .and a b, t, e, S => (dX c a t e S).bind fun w S1 => (match w with
    | .d (.bl true) => dX c b t e S1
    | .d (.bl false) => .ok (.d (.bl false)) S1
    | _ => .no)
  | .or a b, t, e, S => (dX c a t e S).bind fun w S1 => (match w with
    | .d (.bl true) => .ok (.d (.bl true)) S1
    | .d (.bl false) => dX c b t e S1
    | _ => .no)
  | .not a, t, e, S => (dX c a t e S).bind fun w S1 => (match w with
    | .d (.bl b) => .ok (.d (.bl (!b))) S1
    | _ => .no)
  | .ite q a b, t, e, S => if t then .no else ((dX c q true e S).bind fun w S1 => (match w with
    | .d (.bl true) => dX c a false e S1
    | .d (.bl false) => dX c b false e S1
    | _ => .no))
  | .at a f, t, e, S => tst t ((dX c a false e S).bind fun w S1 => R.opt (attW c.fld c.fldX w f S1) S1)
  | .call f es, t, e, S => tst t (if c.defs "" f then (dEs c es e S).bind fun ws S1 => c.call "" f ws S1 else .no)
  | .meth C m o es, t, e, S => tst t (if c.defs C m then (dX c o false e S).bind fun w S1 => if recvM C m w S1 then (dEs c es e S1).bind fun ws S2 => c.call C m (w :: ws) S2 else .no else .no)
  | .mk C n ks es, t, e, S => tst t (if c.mks C then (dEs c es e S).bind fun ws S1 => c.make C n ks ws S1 else .no)
  | .lc elt tg it ifs, t, e, S => tst t (if c.calm = false then .no else (dI c it e S).bind fun p S1 => (lcLoop (fun tv S => match TV.put tg tv e with
    | some e' => (dTs c ifs e' S).bind fun b S' => if b then (dX c elt false e' S').bind fun w S'' => .ok (some w) S'' else .ok none S'
    | none => .no) p.2 p.1 [] S1).bind fun l S2 => newL l S2)
  | .onl o l, t, e, S => tst t (if !isCall o || !c.calm then .no else (dL c l e S).bind fun ws S1 => (match op1 o (.r S1.length) (S1 ++ [.lst ws]) with
    | .ok (.d x) _ => .ok (.d x) S1
    | _ => .no))
  | .joinl s l, t, e, S => tst t ((dX c s false e S).bind fun x S1 => if isStr x then (dL c l e S1).bind fun ws S2 => (match op2 .join x (.r S2.length) (S2 ++ [.lst ws]) with
    | .ok (.d x) _ => .ok (.d x) S2
    | _ => .no) else .no)
  | .inl neg x l, t, e, S => tst t ((dX c x false e S).bind fun x S1 => (dL c l e S1).bind fun ws S2 => (match op2 (if neg then .notin else .isin) x (.r S2.length) (S2 ++ [.lst ws]) with
    | .ok (.d x) _ => .ok (.d x) S2
    | _ => .no))
  | .fs es, t, e, S => tst t (dFs c es [] e S)
  | .app l x, t, e, S => tst t ((dX c l false e S).bind fun a S1 => if isLst S1 a then (dX c x false e S1).bind fun w S2 => (match a with
    | .r n => (match S2[n]? with
      | some (.lst ws) => if ws.length < LINE then .ok (.d .non) (S2.set n (.lst (ws ++ [w]))) else .no
      | _ => .no)
    | _ => .no) else .no)
  | .ext l x, t, e, S => tst t ((dX c l false e S).bind fun a S1 => if isLst S1 a then (dX c x false e S1).bind fun w S2 => (match a, extOf S2 w with
    | .r n, some vs => (match S2[n]? with
      | some (.lst ws) => if ws.length + vs.length ≤ LINE then .ok (.d .non) (S2.set n (.lst (ws ++ vs))) else .no
      | _ => .no)
    | _, _ => .no) else .no)
  | .pop l, t, e, S => tst t ((dX c l false e S).bind fun a S1 => (match a with
    | .r n => (match S1[n]? with
      | some (.lst ws) => (match ws.getLast? with
        | some w => .ok w (S1.set n (.lst ws.dropLast))
        | none => .no)
      | _ => .no)
    | _ => .no))
  | .popi l i, t, e, S => tst t ((dX c l false e S).bind fun a S1 => if isLst S1 a then (dX c i false e S1).bind fun k S2 => (match a, k with
    | .r n, .d (.int i) => (match S2[n]? with
      | some (.lst ws) => (match (ixN ws.length i), (ixN ws.length i).bind (ws[·]?) with
        | some j, some w => if B62 i then .ok w (S2.set n (.lst (ws.eraseIdx j))) else .no
        | _, _ => .no)
      | _ => .no)
    | _, _ => .no) else .no)
  | .exf i f, t, e, S => tst t (match c.cur with
    | some (x, j) => if i = j then (if c.fldX x.C f then R.opt (x.fs.lookup f) S else .no) else .no
    | none => .no)
  | .insz l x, t, e, S => tst t ((dX c l false e S).bind fun a S1 => if isLst S1 a then (dX c x false e S1).bind fun w S2 => (match a with
    | .r n => (match S2[n]? with
      | some (.lst ws) => if ws.length < LINE then .ok (.d .non) (S2.set n (.lst (w :: ws))) else .no
      | _ => .no)
    | _ => .no) else .no)
  | .mkx C es, t, e, S => tst t (if c.calm = false then .no else match c.exn C with
    | some ns => (dEs c es e S).bind fun ws S1 => if ns.length = ws.length then .ok (.r S1.length) (S1 ++ [.exc C (ns.zip ws)]) else .no
    | none => .no)
  | .callx f i, t, e, S => tst t (match c.cur with
    | some (x, j) => if i = j then c.hot f x S else .no
    | none => .no)
def dTs (c : Cx) : Es → En → Store → R Bool
  | .nil, _, S => .ok true S
  | .cons x r, e, S => (dX c x true e S).bind fun w S1 => (match w with
    | .d (.bl true) => dTs c r e S1
    | .d (.bl false) => .ok false S1
    | _ => .no)
  | .star _ _, _, _ => .no
/-- a row of expressions -/
def dEs (c : Cx) : Es → En → Store → R (List W)
  | .nil, _, S => .ok [] S
  | .cons x r, e, S => (dX c x false e S).bind fun w S1 => (dEs c r e S1).bind fun ws S2 => .ok (w :: ws) S2
  | .star x r, e, S => (dX c x false e S).bind fun w S1 => (match seqOf S1 w with
    | some l => (dEs c r e S1).bind fun ws S2 => .ok (l ++ ws) S2
    | none => .no)
/-- the parts of an f-string -/
def dFs (c : Cx) : Es → List Char → En → Store → R W
  | .nil, acc, _, S => .ok (.d (.str acc)) S
  | .cons x r, acc, e, S => (dX c x false e S).bind fun w S1 => (match fmt w with
    | some a => if acc.length + a.length ≤ LINE then dFs c r (acc ++ a) e S1 else .no
    | none => .no)
  | .star _ _, _, _, _ => .no
/-- a new list that nobody else holds -/
def dL (c : Cx) : E → En → Store → R (List W)
  | .lst es, e, S => (dEs c es e S).bind fun ws S1 => if ws.length ≤ LINE then .ok ws S1 else .no
  | .lc elt t it ifs, e, S => if c.calm = false then .no else (dI c it e S).bind fun p S1 => lcLoop (fun tv S => match TV.put t tv e with
    | some e' => (dTs c ifs e' S).bind fun b S' => if b then (dX c elt false e' S').bind fun w S'' => .ok (some w) S'' else .ok none S'
    | none => .no) p.2 p.1 [] S1
  | _, _, _ => .no
def dI (c : Cx) : It → En → Store → R (List TV × Guard)
  | .of x, e, S => (dX c x false e S).bind fun w S1 => (match walkW w S1 with
    | some (l, g) => .ok (l.map TV.one, g) S1
    | none => .no)
  | .rng1 a, e, S => (dX c a false e S).bind fun w S1 => (match w with
    | .d (.int i) => if B62 i then .ok (rangeW 0 i.toNat, []) S1 else .no
    | _ => .no)
  | .rng2 a b, e, S => (dX c a false e S).bind fun x S1 => (dX c b false e S1).bind fun y S2 => (match x, y with
    | .d (.int i), .d (.int j) => if B62 i && B62 j then .ok (rangeW i (j - i).toNat, []) S2 else .no
    | _, _ => .no)
  | .revr a, e, S => (dX c a false e S).bind fun w S1 => (match w with
    | .d (.int i) => if B62 i then .ok ((rangeW 0 i.toNat).reverse, []) S1 else .no
    | _ => .no)
  | .enum x, e, S => (dX c x false e S).bind fun w S1 => (match pairW w S1 with
    | some (_, l, g) => .ok (enumW l, g) S1
    | none => .no)
  | .zip a b, e, S => (dX c a false e S).bind fun x S1 => (dX c b false e S1).bind fun y S2 => (match pairW x S2, pairW y S2 with
    | some (p, l, g), some (q, m, h) => if p = q then .ok (zipW l m, g ++ h) S2 else .no
    | _, _ => .no)
end
/-- an expression as a test -/
def dT (c : Cx) (x : E) (e : En) (S : Store) : R Bool := (dX c x true e S).bind fun w S1 => match w with
  | .d (.bl b) => .ok b S1
  | _ => .no
/-- the slots that a statement may store -/
def S.asg : S → List Nat
  | .seq a b => S.asg a ++ S.asg b
  | .set p _ => T.ix p
  | .aug i _ _ => [i]
  | .if_ _ a b => S.asg a ++ S.asg b
  | .for_ p _ b => T.ix p ++ S.asg b
  | .while_ _ b => S.asg b
  | .try_ b _ n h => S.asg b ++ n.toList ++ S.asg h
  | _ => []
def forget (e : En) : List Nat → En
  | [] => e
  | i :: r => (forget e r).set i none
/-- behind an except suite its name is gone -/
def Fl.drop (n : Option Nat) : Fl → Fl
  | .nx e => .nx (forget e n.toList)
  | .rt w => .rt w
  | .bk e => .bk (forget e n.toList)
  | .ct e => .ct (forget e n.toList)
/-- the augmented operators -/
def augW (o : O2) (a b : W) : Option W := match o, a, b with
  | .add, .d (.int i), .d (.int j) => some (.d (.int (i + j)))
  | .sub, .d (.int i), .d (.int j) => some (.d (.int (i - j)))
  | _, _, _ => none
def dS (c : Cx) : S → En → Store → R Fl
  | .nil, e, S => .ok (.nx e) S
  | .seq a b, e, S => match dS c a e S with
    | .ok (.nx e') S' => dS c b e' S'
    | r => r
  | .set p x, e, S => if c.calm = false && T.tup p then .no else (dX c x false e S).bind fun w S1 => (match T.put p w e with
    | some e' => .ok (.nx e') S1
    | none => .no)
  | .setA o f x, e, S => if c.calm = false then .no else (dX c x false e S).bind fun w S1 => (dX c o false e S1).bind fun a S2 => (match a with
    | .r n => (match S2[n]? with
      | some (.ins C fs) => if c.fld C f && decide (fs.length < 1000) then .ok (.nx e) (S2.set n (.ins C (putF f w fs))) else .no
      | _ => .no)
    | _ => .no)
  | .setI o i x, e, S => if c.calm = false then .no else (dX c x false e S).bind fun w S1 => (dX c o false e S1).bind fun a S2 => (dX c i false e S2).bind fun k S3 => (match a, k with
    | .r n, .d (.int i) => (match S3[n]? with
      | some (.lst ws) => (match ixN ws.length i with
        | some j => .ok (.nx e) (S3.set n (.lst (ws.set j w)))
        | none => .no)
      | _ => .no)
    | _, _ => .no)
  | .aug i o x, e, S => if c.calm = false then .no else match e[i]? with
    | some (some w) => (dX c x false e S).bind fun v S1 => (match augW o w v with
      | some u => .ok (.nx (e.set i (some u))) S1
      | none => .no)
    | _ => .no
  | .ex x, e, S => (dX c x false e S).bind fun _ S1 => .ok (.nx e) S1
  | .ret x, e, S => (dX c x false e S).bind fun w S1 => .ok (.rt w) S1
  | .if_ t a b, e, S => (dT c t e S).bind fun q S1 => if q then dS c a e S1 else dS c b e S1
  | .for_ t it b, e, S => if c.calm = false then .no else (dI c it e S).bind fun p S1 => forLoop (fun tv e S => match TV.put t tv e with
    | some e' => dS c b e' S
    | none => .no) p.2 p.1 e S1
  | .while_ t b, e, S => if c.calm = false then .no else whileLoop (fun e S => dT c t e S) (fun e S => dS c b e S) c.fuel e S
  | .raise C es, e, S => if c.calm = false then .no else match c.exn C with
    | some ns => (dEs c es e S).bind fun ws S1 => if ns.length = ws.length then .err ⟨C, ns.zip ws⟩ S1 else .no
    | none => .no
  | .raiseN C es, e, S => .no
  | .try_ b C n h, e, S => if c.calm = false || (c.exn C).isNone || n.any (fun i => (Ev.S.asg h).contains i || decide (e.length ≤ i)) then .no else match dS c b e S with
    | .err x S1 => (match c.sub x.C C with
      | some true => (match dS { c with cur := n.map fun i => (x, i), calm := false, call := fun _ _ _ _ => .no, make := fun _ _ _ _ _ => .no, exn := fun _ => none } h (forget e (Ev.S.asg b ++ n.toList)) S1 with
        | .ok f S2 => .ok (f.drop n) S2
        | _ => .no)
      | some false => .err x S1
      | none => .no)
    | r => r
  | .brk, e, S => .ok (.bk e) S
  | .cont, e, S => .ok (.ct e) S

/-! ### defs, calls -/
structure Fn where
  ps : Nat
  n : Nat
  body : S
/-- a program: its defs (methods as Class.name), its constants, its own errors with their fields, which class lies under which, the classes whose instances never change -/
structure Prog where
  fns : List ((String × String) × Fn)
  globs : List (String × D)
  exns : List (String × List String)
  subs : List (String × String)
  frozen : List String
  flds : List (String × List String)
  shapes : List (String × Nat × List String)
def Ob.cl (n : Nat) : Ob → Bool
  | .lst l => l.all (W.lt n)
  | .fro l => l.all (W.lt n)
  | .ins _ fs => fs.all fun p => W.lt n p.2
  | .dic kvs => kvs.all fun p => W.lt n p.2
  | .exc _ fs => fs.all fun p => W.lt n p.2
/-- the old part of the store, where nothing in it leans on the new one -/
def old (n : Nat) (S' : Store) (S : Store) : Option Store := if S'.take n = S ∨ (S'.take n).all (Ob.cl n) = true then some (S'.take n) else none
def gcW (S S' : Store) (w : W) : R W := match old S.length S' S with
  | none => .ok w S'
  | some T => match w with
    | .d x => .ok (.d x) T
    | .r m => if m < S.length then .ok (.r m) T else match S'[m]? with
      | some (.lst l) => (match toD l with
        | some _ => .ok (.r S.length) (T ++ [.lst l])
        | none => .ok (.r m) S')
      | _ => .ok (.r m) S'
def gcX (S S' : Store) (x : Exn) : R W := match old S.length S' S with
  | none => .err x S'
  | some T => if x.fs.all (fun p => W.lt S.length p.2) then .err x T else .err x S'
def fin (S : Store) : R Fl → R W
  | .ok (.rt w) S' => gcW S S' w
  | .ok (.nx _) S' => gcW S S' (.d .non)
  | .ok _ _ => .no
  | .err x S' => gcX S S' x
  | .no => .no
def toDF : List (String × W) → Option (List (String × D))
  | [] => some []
  | (x, .d y) :: r => (toDF r).map ((x, y) :: ·)
  | _ :: _ => none
def mkOf (P : Prog) (call : String → String → List W → Store → R W) (C : String) (n : Nat) (ks : List String) (ws : List W) (S : Store) : R W := if P.shapes.contains (C, n, ks) && ws.length == n + ks.length then (match call C "__init__" (.r S.length :: ws) (S ++ [.ins C []]) with
  | .ok (.d .non) S' => if P.frozen.contains C then (match S'[S.length]? with
      | some (.ins C' fs) => (match toDF fs, old S.length S' S with
        | some fs, some T => if C' = C then .ok (.d (.obj C fs)) T else .no
        | _, _ => .no)
      | _ => .no) else .ok (.r S.length) S'
  | .ok _ _ => .no
  | .err x S' => .err x S'
  | .no => .no) else .no
def Prog.isx (P : Prog) (x C : String) : Option Bool := if (P.exns.lookup x).isSome && ((P.exns.lookup C).isSome || C == "ValueError") then some (C == "ValueError" || x == C || P.subs.contains (x, C)) else none
/-- what runs around a def that is called while an exception is handled: it is called with that exception alone -/
def Prog.cxH (P : Prog) (fuel : Nat) (x : Exn) : Cx where
  call := fun _ _ _ _ => .no
  make := fun _ _ _ _ _ => .no
  defs := fun _ _ => false
  mks := fun _ => false
  fld := fun _ _ => false
  fldX := fun _ _ => false
  glob := fun _ => none
  exn := fun _ => none
  sub := fun _ _ => none
  isx := P.isx
  hot := fun _ _ _ => .no
  fuel := fuel
  cur := some (x, 0)
  calm := false
def noErr {α : Type} : R α → R α
  | .ok a S => .ok a S
  | _ => .no
def runH (P : Prog) (fuel : Nat) (f : String) (x : Exn) (S : Store) : R W := match P.fns.lookup ("", f) with
  | none => .no
  | some F => if F.ps = 1 ∧ f ≠ "__init__" ∧ 0 ∉ Ev.S.asg F.body then noErr (fin S (dS (P.cxH fuel x) F.body (List.replicate F.n none) S)) else .no
def Prog.cx (P : Prog) (fuel : Nat) (call : String → String → List W → Store → R W) : Cx where
  call := fun C f ws S => if f = "__init__" then .no else call C f ws S
  make := mkOf P call
  defs := fun C f => (P.fns.lookup (C, f)).isSome && f != "__init__"
  mks := fun C => P.shapes.any fun x => x.1 == C
  fld := fun C f => match P.flds.lookup C with
    | some l => l.contains f
    | none => false
  fldX := fun C f => match P.exns.lookup C with
    | some l => l.contains f
    | none => false
  glob := fun x => P.globs.lookup x
  exn := fun x => P.exns.lookup x
  sub := fun x y => if (P.exns.lookup x).isSome && (P.exns.lookup y).isSome then some (x == y || P.subs.contains (x, y)) else none
  isx := P.isx
  hot := runH P fuel
  fuel := fuel
  cur := none
  calm := true
def run (P : Prog) (fuel : Nat) : Nat → String → String → List W → Store → R W
  | 0, _, _, _, _ => .no
  | k + 1, C, f, ws, S => match P.fns.lookup (C, f) with
    | none => .no
    | some F => if ws.length = F.ps then fin S (dS (P.cx fuel (run P fuel k)) F.body (ws.map some ++ List.replicate (F.n - F.ps) none) S) else .no
end Ev
end

section
set_option linter.all false
set_option autoImplicit false
/-! EvM: when a text of the model is a term of Ev. -/
namespace Ev
open PySem L2

/-- a text's signs -/
def tx (s : List Char) : Str := ⟨(s.map Char.toNat).toArray⟩
def sx (s : String) : Str := Str.ofString s
/-- a name that the module or the builtins hold -/
def isG (sc : Scope) (x : Str) : Bool := sc.names.lookup x == some .globalImplicit
/-- a name of the def's own: it is seen -/
def visB (sc : Scope) (x : Str) : Bool := match sc.names.lookup x with
  | some .local => true
  | some .cell => true
  | some .free => true
  | _ => false
/-- .. it may be stored, as a plain local -/
def locB (sc : Scope) (x : Str) : Bool := match sc.names.lookup x with
  | some .local => true
  | _ => false
def locC (sc : Scope) (x : Str) : Bool := match sc.names.lookup x with
  | some .local => true
  | some .cell => true
  | _ => false
def nmOk (x : Str) : Bool := (x == ("__debug__" : Str)) == false && (x == ("__classdict__" : Str)) == false
/-- no form that the rules below keep out -/
def okE : Expr → Bool
  | .Starred .. => false
  | .Set .. => false
  | .SetComp .. => false
  | .DictComp .. => false
  | .Call (.Name x _) [] [] _ => x != ("super" : Str)
  | _ => true
def isLC : Expr → Bool
  | .ListComp .. => true
  | _ => false
def isSl : Expr → Bool
  | .Slice .. => true
  | _ => false
def mC : D → Const → Bool
  | .non, .none => true
  | .bl a, .bool b => a == b
  | .int i, .int j => i == j
  | .str s, .str x => decide (tx s = x)
  | _, _ => false
def opB : O2 → Operator → Bool
  | .add, .Add => true
  | .sub, .Sub => true
  | .mul, .Mult => true
  | .fdiv, .FloorDiv => true
  | .mod, .Mod => true
  | .pow, .Pow => true
  | _, _ => false
def cmB : O2 → CmpOp → Bool
  | .eq, .Eq => true
  | .ne, .NotEq => true
  | .lt, .Lt => true
  | .le, .LtE => true
  | .gt, .Gt => true
  | .ge, .GtE => true
  | .isin, .In => true
  | .notin, .NotIn => true
  | _, _ => false
/-- the builtins that take one value: name, is it a class -/
def o1N : O1 → Option String
  | .len => some "len"
  | .int_ => some "int"
  | .abs_ => some "abs"
  | .str_ => some "str"
  | .tuple_ => some "tuple"
  | .list_ => some "list"
  | .sum_ => some "sum"
  | .all_ => some "all"
  | .any_ => some "any"
  | .min_ => some "min"
  | .max_ => some "max"
  | .bool_ => some "bool"
  | _ => none
def tyN : Ty → String
  | .int => "int"
  | .bool => "bool"
  | .str => "str"
  | .tuple => "tuple"
  | .list => "list"
  | .cls C => C
mutual
def mT (N : List Str) (sc : Scope) : T → Expr → Bool
  | .n i, .Name x _ => decide (N[i]? = some x) && locC sc x && decide (i < N.length)
  | .t ts, .Tuple es _ _ => mTs N sc ts es
  | _, _ => false
def mTs (N : List Str) (sc : Scope) : List T → List Expr → Bool
  | [], [] => true
  | u :: us, e :: es => mT N sc u e && mTs N sc us es
  | _, _ => false
end
def ownOf (N : List Str) (l : List Nat) : List (Str × Nat) := l.map fun i => (N.getD i Str.empty, i)
/-- a binary operator, a comparison -/
def mBC (o : O2) (fa fb : Expr → Bool) : Expr → Bool
  | .BinOp c q d _ => opB o q && okE c && okE d && fa c && fb d
  | .Compare c [q] [d] _ => cmB o q && okE c && okE d && fa c && fb d
  | _ => false
mutual
def mE (N : List Str) (sc : Scope) : E → Expr → Bool
  | .v i, e => (match e with
    | .Name x _ => decide (N[i]? = some x) && visB sc x && nmOk x
    | _ => false)
  | .k c, e => (match e with
    | .Constant v _ _ => mC c v
    | _ => false)
  | .g x, e => (match e with
    | .Name y _ => decide (y = sx x) && isG sc y && nmOk y
    | _ => false)
  | .tup es, e => (match e with
    | .Tuple l _ _ => mEs N sc es l
    | _ => false)
  | .lst es, e => (match e with
    | .List l _ => mEs N sc es l
    | _ => false)
  | .o1 o a, e => (match o with
    | .neg => (match e with
      | .UnaryOp .USub b _ => okE b && mE N sc a b
      | _ => false)
    | .isNone => (match e with
      | .Compare b [.Is] [.Constant .none _ _] _ => okE b && mE N sc a b
      | _ => false)
    | .notNone => (match e with
      | .Compare b [.IsNot] [.Constant .none _ _] _ => okE b && mE N sc a b
      | _ => false)
    | .rev => (match e with
      | .Subscript b (.Slice none none (some (.UnaryOp .USub (.Constant (.int i) _ _) _)) _) _ => decide (i = 1) && okE b && mE N sc a b
      | _ => false)
    | o => (match e with
      | .Call (.Name x _) [b] [] _ => (match o1N o with
        | some y => decide (x = sx y) && isG sc x && okE b && mE N sc a b
        | none => false)
      | _ => false))
  | .o2 o a b, e => (match o with
    | .idx => (match e with
      | .Subscript c d _ => okE c && okE d && !isSl d && mE N sc a c && mE N sc b d
      | _ => false)
    | .join => (match e with
      | .Call (.Attribute c x ap) [d] [] p => decide (x = sx "join") && okE c && okE d && (ap.endLine == p.line) && mE N sc a c && mE N sc b d
      | _ => false)
    | .index => (match e with
      | .Call (.Attribute c x ap) [d] [] p => decide (x = sx "index") && okE c && okE d && (ap.endLine == p.line) && mE N sc a c && mE N sc b d
      | _ => false)
    | .min2 => false
    | .max2 => false
    | o => mBC o (mE N sc a) (mE N sc b) e)
  | .ch o p a b d, e => (match e with
    | .Compare a' [q, r] [b', d'] _ => cmB o q && cmB p r && okE a' && okE b' && okE d' && mE N sc a a' && mE N sc b b' && mE N sc d d'
    | _ => false)
  | .sl a lo hi, e => (match e with
    | .Subscript b (.Slice l h none _) _ => okE b && mE N sc a b && (match l with
      | some e => okE e && !isNone lo && mE N sc lo e
      | none => isNone lo) && (match h with
      | some e => okE e && !isNone hi && mE N sc hi e
      | none => isNone hi)
    | _ => false)
  | .isi a ty, e => (match e with
    | .Call (.Name x _) [b, .Name y _] [] _ => decide (x = sx "isinstance") && isG sc x && okE b && mE N sc a b && decide (y = sx (tyN ty)) && isG sc y && nmOk y
    | _ => false)
  | .and a b, e => (match e with
    | .BoolOp .And (c :: l) p => okE c && mE N sc a c && (match l with
      | [] => false
      | [d] => okE d && mE N sc b d
      | d :: r => mE N sc b (.BoolOp .And (d :: r) p))
    | _ => false)
  | .or a b, e => (match e with
    | .BoolOp .Or (c :: l) p => okE c && mE N sc a c && (match l with
      | [] => false
      | [d] => okE d && mE N sc b d
      | d :: r => mE N sc b (.BoolOp .Or (d :: r) p))
    | _ => false)
  | .not a, e => (match e with
    | .UnaryOp .Not b _ => okE b && mE N sc a b
    | _ => false)
  | .ite c a b, e => (match e with
    | .IfExp c' d f _ => okE c' && okE d && okE f && mE N sc c c' && mE N sc a d && mE N sc b f
    | _ => false)
  | .at a f, e => (match e with
    | .Attribute b g _ => decide (g = sx f) && okE b && mE N sc a b
    | _ => false)
  | .call f es, e => (match e with
    | .Call (.Name x _) l [] _ => decide (x = sx f) && isG sc x && nmOk x && mEs N sc es l && l.all okE
    | _ => false)
  | .meth C m o es, e => (match e with
    | .Call (.Attribute b g ap) l [] p => decide (C ≠ "") && decide (g = sx m) && okE b && (ap.endLine == p.line) && mE N sc o b && mEs N sc es l && l.all okE && decide (l.length < 20)
    | _ => false)
  | .mk C n ks es, e => (match e with
    | .Call (.Name x _) l kws _ => decide (x = sx C) && isG sc x && nmOk x && mEs N sc es (l ++ kws.map (·.value)) && l.all okE && kws.all (fun k => okE k.value) && decide (l.length = n) && decide (kws.map (·.arg) = ks.map (fun k => some (sx k)))
    | _ => false)
  | .lc elt tg it ifs, e => (match e with
    | .ListComp e' [⟨tg', i, l, a⟩] scope _ => decide (a = 0) && okE e' && okE i && l.all okE && decide (l.length ≤ 1) && mIt N sc it tg' i && blkC N sc scope (ownOf N (T.ix tg)) && (T.ix tg).all (fun i => locC scope (N.getD i Str.empty)) && mT N (relS scope sc) tg tg' && mE N (relS scope sc) elt e' && mEs N (relS scope sc) ifs l
    | _ => false)
  | .onl o l, e => (match e with
    | .Call (.Name x _) [b] [] _ => (match o1N o with
      | some y => decide (x = sx y) && isG sc x && okE b && mE N sc l b
      | none => false)
    | _ => false)
  | .joinl s l, e => (match e with
    | .Call (.Attribute c x ap) [d] [] p => decide (x = sx "join") && okE c && okE d && (ap.endLine == p.line) && mE N sc s c && mE N sc l d
    | _ => false)
  | .inl neg x l, e => (match e with
    | .Compare c [q] [d] _ => decide (q = if neg then .NotIn else .In) && okE c && okE d && mE N sc x c && mE N sc l d
    | _ => false)
  | .fs es, e => (match e with
    | .JoinedStr l _ => decide (2 ≤ l.length) && mFs N sc es l
    | _ => false)
  | .app l x, e => (match e with
    | .Call (.Attribute c n ap) [d] [] p => decide (n = sx "append") && okE c && okE d && (ap.endLine == p.line) && mE N sc l c && mE N sc x d
    | _ => false)
  | .ext l x, e => (match e with
    | .Call (.Attribute c n ap) [d] [] p => decide (n = sx "extend") && okE c && okE d && (ap.endLine == p.line) && mE N sc l c && mE N sc x d
    | _ => false)
  | .pop l, e => (match e with
    | .Call (.Attribute c n ap) [] [] p => decide (n = sx "pop") && okE c && (ap.endLine == p.line) && mE N sc l c
    | _ => false)
  | .popi _ _, _ => false
  | .exf i f, e => (match e with
    | .Attribute (.Name x _) g _ => decide (g = sx f) && decide (N[i]? = some x) && visB sc x && nmOk x
    | _ => false)
  | .insz l x, e => (match e with
    | .Call (.Attribute c n ap) [.Constant (.int i) _ _, d] [] p => decide (n = sx "insert") && decide (i = 0) && okE c && okE d && (ap.endLine == p.line) && mE N sc l c && mE N sc x d
    | _ => false)
  | .mkx C es, e => (match e with
    | .Call (.Name x _) l [] _ => decide (x = sx C) && isG sc x && nmOk x && mEs N sc es l && l.all okE
    | _ => false)
  | .callx f i, e => (match e with
    | .Call (.Name x _) [.Name y _] [] _ => decide (x = sx f) && isG sc x && nmOk x && decide (N[i]? = some y) && visB sc y && nmOk y
    | _ => false)
def mEs (N : List Str) (sc : Scope) : Es → List Expr → Bool
  | .nil, l => l.isEmpty
  | .cons x r, l => (match l with
    | e :: l => okE e && mE N sc x e && mEs N sc r l
    | [] => false)
  | .star x r, l => (match l with
    | .Starred e _ :: l => okE e && mE N sc x e && mEs N sc r l
    | _ => false)
def mFs (N : List Str) (sc : Scope) : Es → List Expr → Bool
  | .nil, l => l.isEmpty
  | .cons x r, l => (match l with
    | .FormattedValue e i none _ :: l => decide (i = -1) && okE e && mE N sc x e && mFs N sc r l
    | .Constant (.str y) _ _ :: l => (match x with
      | .k (.str s) => decide (tx s = y)
      | _ => false) && mFs N sc r l
    | _ => false)
  | .star _ _, _ => false
def mIt (N : List Str) (sc : Scope) : It → Expr → Expr → Bool
  | .of x, _, e => okE e && mE N sc x e
  | .rng1 a, _, e => (match e with
    | .Call (.Name x _) [b] [] _ => decide (x = sx "range") && isG sc x && okE b && mE N sc a b
    | _ => false)
  | .rng2 a b, _, e => (match e with
    | .Call (.Name x _) [c, d] [] _ => decide (x = sx "range") && isG sc x && okE c && okE d && mE N sc a c && mE N sc b d
    | _ => false)
  | .revr a, _, e => (match e with
    | .Call (.Name y _) [.Call (.Name x _) [b] [] _] [] _ => decide (y = sx "reversed") && isG sc y && decide (x = sx "range") && isG sc x && okE b && mE N sc a b
    | _ => false)
  | .enum x, u, e => (match u, e with
    | .Tuple _ _ _, .Call (.Name y _) [b] [] _ => decide (y = sx "enumerate") && isG sc y && okE b && mE N sc x b
    | _, _ => false)
  | .zip a b, u, e => (match u, e with
    | .Tuple _ _ _, .Call (.Name y _) [c, d] [] _ => decide (y = sx "zip") && isG sc y && okE c && okE d && mE N sc a c && mE N sc b d
    | _, _ => false)
end
def swOk (e : Expr) : Bool := okE e && !isLC e
/-- a comprehension stored in a plain name: on one line -/
def lcSet (sc : Scope) (x : Str) (px : Pos) (line : Nat) : Expr → Bool
  | .ListComp e gs scope p => locB sc x && (px.line == p.line) && ((scope.names.any fun (n, k) => n == x && (k == .local || k == .cell)) == false)
  | _ => true
def notTup : Expr → Bool
  | .Tuple .. => false
  | _ => true
def isSeq : S → Bool
  | .seq _ _ => true
  | _ => false
def mS (N : List Str) (sc : Scope) : S → List Stmt → Bool
  | .nil, l => (match l with
    | [] => true
    | [.Pass _] => true
    | _ => false)
  | .seq a b, l => (match l with
    | s :: r => !isSeq a && mS N sc a [s] && mS N sc b r
    | [] => false)
  | .set tg x, l => (match l with
    | [.Assign [.Name y p] e q] => okE e && mT N sc tg (.Name y p) && mE N sc x e && lcSet sc y p q.line e
    | [.Assign [.Tuple es k p] e _] => swOk e && notTup e && mT N sc tg (.Tuple es k p) && mE N sc x e
    | _ => false)
  | .setA o f x, l => (match l with
    | [.Assign [.Attribute b g _] e _] => okE e && !isLC e && decide (g = sx f) && okE b && mE N sc o b && mE N sc x e
    | _ => false)
  | .setI o i x, l => (match l with
    | [.Assign [.Subscript b j _] e _] => okE e && !isLC e && okE b && okE j && !isSl j && mE N sc o b && mE N sc i j && mE N sc x e
    | _ => false)
  | .aug i o x, l => (match l with
    | [.AugAssign (.Name y _) q e _] => (o == .add || o == .sub) && opB o q && decide (N[i]? = some y) && decide (i < N.length) && locC sc y && okE e && mE N sc x e
    | _ => false)
  | .ex x, l => (match l with
    | [.Expr e _] => swOk e && mE N sc x e
    | _ => false)
  | .ret x, l => (match l with
    | [.Return (some e) _] => okE e && mE N sc x e
    | [.Return none _] => (match x with
      | .k .non => true
      | _ => false)
    | _ => false)
  | .if_ c a b, l => (match l with
    | [.If t' l r _] => okE t' && mE N sc c t' && mS N sc a l && mS N sc b r
    | _ => false)
  | .for_ tg it b, l => (match l with
    | [.For tg' i l [] _] => okE i && mIt N sc it tg' i && mT N sc tg tg' && mS N sc b l
    | _ => false)
  | .while_ c b, l => (match l with
    | [.While t' l [] _] => okE t' && mE N sc c t' && mS N sc b l
    | _ => false)
  | .raise C es, l => (match l with
    | [.Raise (some (.Call (.Name x _) l [] _)) none _] => decide (x = sx C) && isG sc x && nmOk x && mEs N sc es l && l.all okE
    | _ => false)
  | .raiseN C es, l => (match l with
    | [.Raise (some (.Call (.Name x _) l [] _)) (some (.Constant .none _ _)) _] => decide (x = sx C) && isG sc x && nmOk x && mEs N sc es l && l.all okE
    | _ => false)
  | .try_ b C n h, l => (match l with
    | [.Try l [.ExceptHandler (some (.Name x _)) m (b₀ :: suite) _] [] [] _] => decide (x = sx C) && isG sc x && nmOk x && mS N sc b l && mS N sc h (b₀ :: suite) && (match n, m with
      | none, none => true
      | some i, some y => decide (N[i]? = some y) && decide (i < N.length) && locB sc y
      | _, _ => false)
    | _ => false)
  | .brk, _ => false
  | .cont, _ => false
end Ev
end

section
set_option linter.all false
set_option autoImplicit false
/-! EvX1: list.extend of a tuple. -/
namespace Ev
section
open PySem PySem.Spec PySem.Calls PySem.AutoSeq1
set_option maxRecDepth 8000 in
theorem list_extend_tup (l : Addr) (items : Array Value) (n : Nat) (b : Addr) (dd : Option Addr) (sl : Array (Option Value)) (items2 : Array Value) (n2 : Nat) (hs0 : ¬(!items.isEmpty && Builtin.List.listTooLong (items.size + items2.size)) = true) (hs1 : items.size ≤ sizeLine) (hs2 : items.size + items2.size ≤ sizeLine + 1) :
    Meets (Builtin.«list.extend» ⟨[.ref l, .ref b], []⟩) (fun _ R s => s.heap.get? l = some { cls := .type "list", dict := none, data := .seq items n, slots := #[] } ∧ s.heap.get? b = some { cls := .type "tuple", dict := dd, data := .seq items2 n2, slots := sl } ∧ R (.ok (.ret Value.none)) { s with heap := s.heap.update l (Obj.mapSeq fun x => x ++ items2), toks := s.toks }) :=
  .of_wp fun prog w A R s h => by
    obtain ⟨hp, g, d, tk, os⟩ := s; obtain ⟨hl, hb, h⟩ := h; have f1 := AutoSeq1.idx_int; have f2 := AutoSeq1.sub_tuple_tuple; have f3 := AutoSeq1.sub_list_list; have f4 := AutoSeq1.sub_tuple_list; have f5 := AutoSeq1.sub_list_tuple;
    have hz' : (items ++ items2).size ≤ sizeLine + 1 := by rw [Array.size_append]; exact hs2
    wp_walk using (wpAny_updateSeq hl rfl (hz := hs1) (_hz' := hz')), AutoSeq1.wpAny_loadPart' hl, AutoSeq1.wpAny_loadPart' hb; exact ⟨_, rfl, h⟩
end
section
open PySem L2 PySem.Spec PyProof.Rows
variable {X : L2.Cx}
def rExtT (K : PySem.W.Frag) : V → List V → Hp → VK → Prop := fun x vs H Q => ∃ l b xs zs, x = .ref l ∧ vs = [.ref b] ∧ H l = some (.lst xs) ∧ SqT K H b zs ∧ xs.length + zs.length ≤ sizeLine ∧ Q .non (upd H l (.lst (xs ++ zs)))
theorem mt_extendT : MtM X "list.extend" (rExtT X.K) := by
  intro pins s σ H x vs v us Q I rx rv h
  obtain ⟨l, b, xs, zs, rfl, rfl, hH, hB, hz, q⟩ := h
  cases rx
  obtain ⟨u, rfl, ru⟩ := rv.one
  cases ru
  obtain ⟨z, its, n, r, hl, e⟩ := I.lstM hH
  obtain ⟨its2, r2, ⟨o, e2, oc, n2, od⟩, hl2⟩ := I.tuple hB
  obtain ⟨oc', od', odt, osl⟩ := o
  simp only at oc od
  subst oc od
  have hsz : its.toArray.size + its2.toArray.size ≤ sizeLine := by rw [List.size_toArray, List.size_toArray, ← hl, ← r2.length]; exact hz
  have hlong : ¬ (!its.toArray.isEmpty && Builtin.List.listTooLong (its.toArray.size + its2.toArray.size)) = true := by
    rw [notLongL hsz, Bool.and_false]
    exact Bool.false_ne_true
  refine call_meets F.slot_list_extend ⟨_, e, rfl⟩ F.entry_list_extend (F.args_list_extend_2 _ _)
    (list_extend_tup l its.toArray n b od' osl its2.toArray n2 hlong (by rw [List.size_toArray]; omega) (by omega)) ⟨e, e2, ?_⟩
  refine ⟨.non, _, I.lset (its' := its ++ its2) hH e (by simp) (r.append r2) ?_, rfl, q⟩
  rw [List.length_append]; exact hz
end
end Ev
end

section
set_option linter.all false
set_option autoImplicit false
/-! EvX2: enumerate over a tuple. -/
namespace Ev
section
open PySem PySem.Spec PySem.Calls
open Sem (wp)
open PySem.AutoSeq1 (wpAny_loadPart')
set_option maxRecDepth 100000
theorem meets_enumerate_newT (l : Addr) (items : Array Value) (n : Nat) (dct : Option Addr) (sl : Array (Option Value)) :
    Meets (Builtin.«enumerate.__new__» ⟨[.type "enumerate", .ref l], []⟩) (fun _ R s => s.heap.get? l = some { cls := .type "tuple", dict := dct, data := .seq items n, slots := sl } ∧
      R (.ok (.ret (.ref (s.heap.push { cls := .type "tuple_iterator", data := .fields #[.ref l, .int 0 0] }).objs.size)))
        { s with heap := (s.heap.push { cls := .type "tuple_iterator", data := .fields #[.ref l, .int 0 0] }).push { cls := .type "enumerate", data := .fields #[.none, .bool false, .ref s.heap.objs.size, rawInt 0, .none, .none] } }) :=
  .of_wp fun prog w A R s h => by
    obtain ⟨hp, g, d, tk, os⟩ := s; obtain ⟨hl, h⟩ := h
    have hsub := sub_enumerate
    have hL : Heap.IsTuple (Shared.heap ⟨hp, g, d, tk, os⟩) l items := ⟨_, hl, rfl, n, rfl⟩
    wp_walk using wpAny_loadPart' hl
    refine wpAny_stack_any fun st => wpAny_pure ?_
    split
    · rename_i c _ _ _ _ _
      cases (c == Value.type "enumerate")
      · wp_walk using wpAny_loadPart' hl, wpAny_pyIter_tuple hL
        exact ⟨_, rfl, h⟩
      · wp_walk using wpAny_loadPart' hl, wpAny_pyIter_tuple hL
        exact ⟨_, rfl, h⟩
    · wp_walk using wpAny_loadPart' hl, wpAny_pyIter_tuple hL
      exact ⟨_, rfl, h⟩
variable {prog : Program} {w : World} {A : Around} {E : Value → Shared → Prop} {s : Shared}
theorem call_enumerate_tuple {l : Addr} {items : Array Value} {Q : Value → Shared → Prop} (hL : s.heap.IsTuple l items)
    (h : ∀ h', IsEnum h' (s.heap.objs.size + 1) s.heap.objs.size 0 .none → h'.IsTupleIter s.heap.objs.size l 0 → h'.objs.size = s.heap.objs.size + 2 →
      (∀ b o, s.heap.get? b = some o → h'.get? b = some o) → Q (.ref (s.heap.objs.size + 1)) { s with heap := h' }) :
    wpAny (model prog w) A (call (.type "enumerate") [.ref l]) Q E s := by
  obtain ⟨⟨c, dct, dt, sl⟩, hl, hc, n, hd⟩ := hL
  replace hc : c = .type "tuple" := hc
  replace hd : dt = .seq items n := hd
  subst hc hd
  refine callType_new F.called_enumerate (by decide) (F.typeCall_enumerate_1 _) (F.newCall_enumerate_1 _) (fun obj => F.args_object_init_2 obj _) F.entry_enumerate_new
    (meets_enumerate_newT l items n dct sl) ⟨hl, ?_⟩
  have hz : (s.heap.push { cls := .type "tuple_iterator", data := .fields #[.ref l, .int 0 0] }).objs.size = s.heap.objs.size + 1 := Heap.size_push ..
  show _ ∧ _
  rw [hz]
  have he : IsEnum ((s.heap.push { cls := .type "tuple_iterator", data := .fields #[.ref l, .int 0 0] }).push
      { cls := .type "enumerate", data := .fields #[.none, .bool false, .ref s.heap.objs.size, rawInt 0, .none, .none] }) (s.heap.objs.size + 1) s.heap.objs.size 0 .none := by
    have := Heap.get?_push_size (s.heap.push { cls := .type "tuple_iterator", data := .fields #[.ref l, .int 0 0] })
      (o := { cls := .type "enumerate", data := .fields #[.none, .bool false, .ref s.heap.objs.size, rawInt 0, .none, .none] }) rfl
    rw [hz] at this; exact this
  refine ⟨⟨_, he, rfl⟩, h _ he ⟨_, Heap.get?_push_of_some _ (Heap.get?_push_size _ rfl), rfl, rfl⟩ (by rw [Heap.size_push, hz]) fun b o x => Heap.get?_push_of_some _ (Heap.get?_push_of_some _ x)⟩
theorem drawsT (hh : A.handled = none) (it t : Addr) (items : Array Value) (hne : t ≠ it) : Draws prog w A it [it, t] items.size (fun i x => items[i]? = some x) (fun i h => h.IsTupleIter it t i ∧ h.IsTuple t items) where
  live := fun i h ⟨⟨o, ho, _⟩, _⟩ => ⟨o, ho⟩
  frame := fun i h h' ⟨⟨o, ho, r⟩, ⟨o2, ho2, r2⟩⟩ k => ⟨⟨o, k it (by simp) o ho, r⟩, ⟨o2, k t (by simp) o2 ho2, r2⟩⟩
  item := fun i s Q E hi st hQ => by
    obtain ⟨h1, h2⟩ := st
    refine RZ.nextOf_tuple_item h1 h2 (x := items[i]) (by simp [hi]) fun h' h1' sb => ?_
    refine hQ _ h' s.toks (by simp [hi]) ⟨h1', ?_⟩ sb
    obtain ⟨o2, ho2, r2⟩ := h2
    exact ⟨o2, (sb.2 t hne).trans ho2, r2⟩
  done := fun s Q E st hE => by
    obtain ⟨h1, h2⟩ := st
    exact RZ.nextOf_tuple_end hh h1 h2 (by simp) hE
end
section
open PySem PySem.Spec PyProof.Rows L2
/-- the tuple at a, each item in a new pair -/
def ItEt (K : PySem.W.Frag) (a : Addr) : L2.It :=
  ⟨fun i H => ∃ (xs : List V) (x : V), SqT K H a xs ∧ xs[i]? = some x, fun i H v H' => ∃ T x, v = .ref T ∧ H T = none ∧ H' = upd H T (.tup [.int (i : Nat), x]) ∧ ∀ xs, SqT K H a xs → xs[i]? = some x, fun i H => ∃ xs : List V, SqT K H a xs ∧ xs.length ≤ i⟩
theorem turn_enumT {P : Program} {w : World} {K : PySem.W.Frag} {elts : List Expr} {kk : Nat} {tpos : Pos} (a e it : Addr) :
    Turn P w K (.Tuple elts kk tpos) (ItEt K a) [e, it] e (fun i h => (∃ old, IsEnum h e it ((i : Nat) : Int) old) ∧ h.IsTupleIter it a i ∧ e ≠ it) where
  mem := by simp
  obj := fun i h st b hb => by
    obtain ⟨⟨old, he⟩, ⟨o, ho, hc, hd⟩, _⟩ := st
    have e' : b = e ∨ b = it := by simpa using hb
    rcases e' with z | z
    · rw [z]; exact ⟨_, he, fun v q => nomatch q⟩
    · rw [z]; exact ⟨o, ho, fun v q => by rw [hd] at q; cases q⟩
  keep := fun i h h' st k => let ⟨⟨old, he⟩, hi, hne⟩ := st; ⟨⟨old, k e (by simp) _ he⟩, hi.at fun o q => k it (by simp) o q, hne⟩
  item := by
    intro X hP hw hK hc i pins s σ H E I hf st hg
    subst hP hw hK
    obtain ⟨⟨old, he⟩, hit, hne⟩ := st
    obtain ⟨xs, x, hq, hx⟩ := hg
    obtain ⟨its, rv, p, hz⟩ := I.tuple hq
    obtain ⟨u, hu, ru⟩ := rv.get hx
    have hel : e < s.heap.objs.size := Heap.lt_size he
    have hil : it < s.heap.objs.size := by obtain ⟨_, q, _⟩ := hit; exact Heap.lt_size q
    have hae : e ≠ a := fun z => by
      obtain ⟨o, h1, h2, _⟩ := p
      rw [← z, he] at h1
      cases h1
      exact absurd (Value.type.inj h2) (by decide)
    have hai : a ≠ it := fun z => by
      obtain ⟨o, h1, h2, _⟩ := p
      obtain ⟨o', h1', h2', _⟩ := hit
      rw [z, h1'] at h1
      cases h1
      rw [h2'] at h2
      exact absurd (Value.type.inj h2) (by decide)
    have hu' : its.toArray[i]? = some u := by simpa using hu
    have hlt : i < its.toArray.size := by
      rcases Nat.lt_or_ge i its.toArray.size with z | z
      · exact z
      · rw [Array.getElem?_eq_none z] at hu'; cases hu'
    refine wpAny_pyNext_enum_itemD (drawsT (prog := X.prog) (w := X.w) (A := X.A.in1) (show X.A.in1.handled = none from I.ok.hd hc) it a its.toArray hai) he ⟨hit, p⟩ hlt hne (by simp [hne, hae]) fun x' h' tk hx' ho hst' hT hsz hk => ?_
    have ex : x' = u := by rw [hu'] at hx'; exact (Option.some.inj hx').symm
    subst ex
    refine ⟨_, rfl, wpAny_letOwnedTupleGo_enum (s := { s with heap := h', toks := tk + 1 }) ho fun h'' he' sb => ?_⟩
    have hT2 : h''.get? s.heap.objs.size = some { cls := .type "tuple", data := .seq #[.int i tk, x'] } := (sb.2 _ (Nat.ne_of_gt hel)).trans hT
    have new : ObjOk X.prog X.w (upd H s.heap.objs.size (.tup [.int (i : Nat), x])) h'' s.heap.objs.size (.tup [.int (i : Nat), x]) :=
      ⟨by show 2 ≤ sizeLine; decide, [.int i tk, x'], .cons ⟨_, rfl⟩ (.cons ru .nil), ⟨_, hT2, rfl, _, rfl⟩⟩
    have I1 : Inv X pins σ (upd H s.heap.objs.size (.tup [.int (i : Nat), x])) { s with heap := h'', toks := tk + 1 } :=
      I.turnedNew (ch := [e, it]) (fun b ob hb q => (sb.2 b (fun z => hb (by simp [z]))).trans (hk b ob (fun z => hb (by simp [z])) (fun z => hb (by simp [z])) q)) hf (Nat.le_refl _) new
    refine ⟨.ref s.heap.objs.size, _, I1, rfl, ⟨_, x, rfl, I.hok.fresh (Nat.le_refl _), rfl, fun ys hy => by rw [I.tuple_inj hy hq]; exact hx⟩, ⟨⟨x', ?_⟩, hst'.1.at fun o q => (sb.2 it (Ne.symm hne)).trans q, hne⟩, fun b hb => ?_⟩
    · have e1 : ((i + 1 : Nat) : Int) = (i : Int) + 1 := by omega
      rw [e1]; exact he'
    · have hb' : b < s.heap.objs.size := by
        have e' : b = e ∨ b = it := by simpa using hb
        rcases e' with z | z
        · rw [z]; exact hel
        · rw [z]; exact hil
      rw [upd_ne (Nat.ne_of_lt hb')]
      exact (hf b hb).1
  done := by
    intro X hP hw hK hc i pins s σ H E I hf st hg
    subst hP hw hK
    obtain ⟨⟨old, he⟩, hit, hne⟩ := st
    obtain ⟨xs, hq, hx⟩ := hg
    obtain ⟨its, rv, p, hz⟩ := I.tuple hq
    obtain ⟨f0, f1, f2, f3, f4, f5⟩ := hf it (by simp)
    have hl := rv.length
    have hai : a ≠ it := fun z => by
      obtain ⟨o, h1, h2, _⟩ := p
      obtain ⟨o', h1', h2', _⟩ := hit
      rw [z, h1'] at h1
      cases h1
      rw [h2'] at h2
      exact absurd (Value.type.inj h2) (by decide)
    have hT : s.TypeIs (.ref e) "enumerate" := ⟨_, he, rfl⟩
    unfold pyNext
    refine wpAny_bind (wpAny_attempt (wpAny_callSpecial?_slot (name := Str.ofString "__next__") hT F.slot_enumerate_next
      (wpAny_call_entry F.slot_enumerate_next hT F.entry_enumerate_next ?_ (F.args_enumerate_next_1 _))))
    show wpAny _ _ (field (.ref e) 2 >>= _) _ _ _
    refine wpAny_bind (wpAny_field he rfl (x := .ref it) rfl ?_)
    refine wpAny_bind (RZ.nextOf_tuple_end (show X.A.in1.handled = none from I.ok.hd hc) hit p (by simp; omega) fun h' x eb hx' => ?_)
    obtain ⟨o, ho, hc'⟩ := hx'
    refine wpAny_bind (wpAny_isInstance (T := "StopIteration") (b := true) ⟨o, ho, hc'⟩ isSubtype_stop ?_)
    exact wpAny_pure ⟨rfl, I.turned (t' := s.toks) (fun b o hb q => eb b o hb q) f0 f1 f3 f4 f5⟩
  self := fun A i s Q E st h => let ⟨⟨_, he⟩, _⟩ := st; wpAny_pyIter_enum he h
def iEnumT (K : PySem.W.Frag) (ta : TA) : TI := fun σ H R => ta σ H fun vs H1 => ∃ a xs, vs = [.ref a] ∧ ((SqL K H1 a xs ∧ R (Ite K a) H1) ∨ (SqT K H1 a xs ∧ R (ItEt K a) H1))
theorem pi_enumT {X : L2.Cx} {e : Expr} {ta : TA} {x : Str} {p pos tpos : Pos} {elts : List Expr} {kk : Nat} (hx : x = "enumerate") (hg : Gl X x) (hm : X.mg x = none) (ha : PA X [e] ta) (hs : starEach [e] X.env = [(false, eval e X.env)] := by rfl) :
    PI X (.Tuple elts kk tpos) (.Call (.Name x p) [e] [] pos) (iEnumT X.K ta) := by
  subst hx
  refine ⟨fun pins s σ H R I h => ?_⟩
  refine Call_ (ld_blt I hg hm boot_enumerate (PyProof.Rows.callWith_type1 (thn (ha.run pos pins s σ H _ I h) fun us s1 ⟨vs, H1, I1, r1, q1⟩ => ?_) hs rfl))
  obtain ⟨a, xs, ex, q1⟩ := q1
  subst ex
  cases r1 with
  | cons r rr =>
    cases rr
    cases r
    have fr : ∀ b ∈ [s1.heap.objs.size + 1, s1.heap.objs.size], FpOk X pins H1 b := fun b hb => by
      have e' : b = s1.heap.objs.size + 1 ∨ b = s1.heap.objs.size := by simpa using hb
      have hle : s1.heap.objs.size ≤ b := by
        rcases e' with z | z
        · rw [z]; exact Nat.le_succ _
        · rw [z]; exact Nat.le_refl _
      exact I1.fpOk hle (I1.hok.fresh hle)
    rcases q1 with ⟨hq, q⟩ | ⟨hq, q⟩
    · obtain ⟨its, rv, p', hz⟩ := I1.list hq
      refine call_enumerate_list p'.isList fun h' he hit hsz hk => wpAny_pyIter_enum he ?_
      have I2 : Inv X pins σ H1 { s1 with heap := h' } := I1.kept (t' := s1.toks) hk
      exact ⟨s1.heap.objs.size + 1, [s1.heap.objs.size + 1, s1.heap.objs.size], _, _, H1, rfl, I2, turn_enum a (s1.heap.objs.size + 1) s1.heap.objs.size, ⟨⟨.none, he⟩, hit, Nat.succ_ne_self _⟩, fr, q⟩
    · obtain ⟨its, rv, p', hz⟩ := I1.tuple hq
      refine call_enumerate_tuple (show s1.heap.IsTuple a its.toArray from p') fun h' he hit hsz hk => wpAny_pyIter_enum he ?_
      have I2 : Inv X pins σ H1 { s1 with heap := h' } := I1.kept (t' := s1.toks) hk
      exact ⟨s1.heap.objs.size + 1, [s1.heap.objs.size + 1, s1.heap.objs.size], _, _, H1, rfl, I2, turn_enumT a (s1.heap.objs.size + 1) s1.heap.objs.size, ⟨⟨.none, he⟩, hit, Nat.succ_ne_self _⟩, fr, q⟩
end
end Ev
end

section
set_option linter.all false
set_option autoImplicit false
/-! EvX3: an own exception's __init__ that says super().__init__("text") and sets fields. -/
namespace Ev
open PySem PySem.Spec PyProof.Rows L2
/-- names: the parameters first; plain locals, and the free __class__ -/
structure ExScope (N P : List Str) (sc : Scope) : Prop where
  kind : sc.kind = .function
  co : sc.isCoroutine = false
  gen : sc.isGenerator = false
  nd : N.Nodup
  pre : N.take P.length = P
  par : ∀ x ∈ P, sc.names.lookup x = some .local
  nocell : ∀ x ∈ sc.names, x.2 ≠ .cell
  free : ∀ y, sc.names.lookup y = some .free → y = ("__class__" : Str)
/-- the context of such a body -/
def cxX (P : Program) (w : World) (K : PySem.W.Frag) (mg : Str → Option Value) (base : Heap) (N : List Str) (qual : Str) (scope : Scope) (f cc : Addr) (cd : Value) (A : Around) (outer : List Env) (s : Shared) (H : Hp) (E : Value → Shared → Prop) : L2.Cx where
  prog := P
  w := w
  K := K
  mg := mg
  base := base
  A := A.deeper (PySem.W.ksEnv qual scope s.heap.objs.size f cd cc)
  N := N
  s_0 := s
  H_0 := H
  env := PySem.W.ksEnv qual scope s.heap.objs.size f cd cc
  outer := outer
  stack := PySem.W.ksEnv qual scope s.heap.objs.size f cd cc :: outer
  ex := []
  calm := true
  fn := fun _ => false
  pn := []
  xe := E
theorem zip_sub : ∀ (P : List Str) (us : List Value), ((P.zip us).map (·.1)).Sublist P
  | [], _ => by simp
  | _ :: _, [] => by simp
  | p :: P, u :: us => by
    simp only [List.zip_cons_cons, List.map_cons]
    exact (zip_sub P us).cons_cons p
theorem bind_look {P : List Str} {us : List Value} {i : Nat} {x : Str} {u : Value} (nd : P.Nodup) (h1 : P[i]? = some x) (h2 : us[i]? = some u) : (P.zip us).reverse.lookup x = some u := by
  have hm : (x, u) ∈ (P.zip us).reverse := by
    rw [List.mem_reverse]
    refine List.mem_of_getElem? (i := i) ?_
    rw [List.getElem?_zip_eq_some]
    exact ⟨h1, h2⟩
  have hnd : ((P.zip us).reverse.map (·.1)).Nodup := by
    rw [List.map_reverse]
    exact ((List.reverse_perm _).nodup_iff).mpr (nd.sublist (zip_sub P us))
  have key : ∀ l : List (Str × Value), (l.map (·.1)).Nodup → (x, u) ∈ l → l.lookup x = some u := by
    intro l
    induction l with
    | nil => intro _ h; cases h
    | cons p l ih =>
      intro nd h
      obtain ⟨y, v⟩ := p
      simp only [List.map_cons, List.nodup_cons] at nd
      rcases List.mem_cons.mp h with h | h
      · cases h
        simp
      · have hne : x ≠ y := fun e => nd.1 (e ▸ List.mem_map_of_mem (f := (·.1)) h)
        have hb : (x == y) = false := by simpa using hne
        simp only [List.lookup, hb]
        exact ih nd.2 h
  exact key _ hnd hm
theorem inv_startX {P : Program} {w : World} {K : PySem.W.Frag} {mg : Str → Option Value} {base : Heap} {N ps : List Str} {qual : Str} {scope : Scope} {f cc : Addr} {cd : Value} {A : Around} {outer : List Env} {s : Shared} {H : Hp} {E : Value → Shared → Prop} {us : List Value} {vs : List V} {h₀ : Heap} {tk : Nat} {oc : Obj} {ov : Option Value}
    (S : ExScope N ps scope) (hd : A.handled = none) (e0 : Env0 P w K mg base A outer s H) (hl : vs.length = ps.length) (r : Vals vs us) (hcc : K.lookup cc = some oc) (hcd : oc.data = .cell ov)
    (hns : h₀.Ns s.heap.objs.size (fun x => (ps.zip us).reverse.lookup x)) (hk : ∀ b o, s.heap.get? b = some o → h₀.get? b = some o) :
    Inv (cxX P w K mg base N qual scope f cc cd A outer s H E) [] (L2.start N vs) H { s with heap := h₀, toks := tk } := by
  have hpl : ps.length ≤ N.length := by have := congrArg List.length S.pre; rw [List.length_take] at this; omega
  have noA : ∀ b : Addr, b ∉ (cxX P w K mg base N qual scope f cc cd A outer s H E).ex := fun b z => absurd (show b ∈ ([] : List Addr) from z) (by simp)
  have hcb : base.get? cc = some oc := e0.mod.kin cc oc hcc
  have hcs := e0.bs cc oc hcb
  have cells : ∀ y c, ([(("__class__" : Str), cc)] : List (Str × Addr)).lookup y = some c → y = ("__class__" : Str) ∧ c = cc := fun y c h => by
    by_cases hy : y = ("__class__" : Str)
    · subst hy
      simp at h
      exact ⟨rfl, h.symm⟩
    · have hb : (y == ("__class__" : Str)) = false := by simpa using hy
      simp [List.lookup, hb] at h
  refine ⟨⟨e0.mod, S.kind, rfl, rfl, Nat.le_refl _, fun y z c h1 h2 => ?_, fun y hy => ?_, fun y c h => Bool.noConfusion h, fun _ => hd, Around.frames_deeper e0.frames, .inr ⟨rfl, rfl⟩, fun b z => absurd z (noA b), e0.bs, e0.bsz, fun b _ _ => noA b, fun b z => absurd z (noA b), e0.funs, e0.frf⟩,
    rfl, e0.bare, Un.kept hk, ⟨_, hns, fun i y v h1 h2 h3 => ?_⟩, fun y c h => ?_, e0.hok.fresh (Nat.le_refl _), fun y c h => ?_, fun p hp => absurd (show p ∈ ([] : List (Addr × Obj)) from hp) (by simp), e0.hok.kept hk, ?_⟩
  · exact (cells y c h1).1.trans (cells z c h2).1.symm
  · have hy : scope.names.lookup y = some .cell ∨ scope.names.lookup y = some .free := hy
    rcases hy with hy | hy
    · exact absurd rfl (S.nocell _ (PySem.mem_of_lookup hy))
    · have := S.free y hy
      subst this
      exact ⟨cc, by show List.lookup _ [(("__class__" : Str), cc)] = _; simp⟩
  · have hi : i < vs.length := by
      unfold L2.start at h2
      by_cases hi : i < vs.length
      · exact hi
      · rw [List.getElem?_append_right (by simpa using hi)] at h2
        rw [List.getElem?_replicate] at h2
        split at h2 <;> cases h2
    have ha : vs[i]? = some v := by
      unfold L2.start at h2
      rw [List.getElem?_append_left (by simpa using hi), List.getElem?_map] at h2
      cases e : vs[i]? with
      | none => rw [e] at h2; cases h2
      | some a => rw [e] at h2; cases h2; rfl
    obtain ⟨u, hu, rv⟩ := r.get ha
    have hp : ps[i]? = some y := by
      rw [← S.pre, List.getElem?_take_of_lt (by omega)]; exact h1
    have ndP : ps.Nodup := by rw [← S.pre]; exact S.nd.sublist (List.take_sublist _ _)
    exact ⟨u, rv, .inl ⟨S.par y (List.mem_of_getElem? hp), bind_look ndP hp hu⟩⟩
  · obtain ⟨_, rfl⟩ := cells y c h
    exact ⟨ov, oc, hk _ _ hcs.1, hcd⟩
  · obtain ⟨_, rfl⟩ := cells y c h
    exact hcs.2
  · unfold L2.start
    show _ = N.length
    rw [List.length_append, List.length_map, List.length_replicate]
    omega

/-- the bound ValueError.__init__, called on an exception that is being made -/
theorem call_mw {X : L2.Cx} {pins : List (Addr × Obj)} {σ : L2.St} {H : Hp} {s : Shared} {a C u : Addr} {rest : List Value} {Q : Value → Shared → Prop} {E : Value → Shared → Prop} {A : Around} (T : OexC X.K C) (I : Inv X pins σ H s) (e : H a = some (exo a C none))
    (hu : s.heap.get? u = some (PySem.W.kxs_mw "ValueError.__init__" a)) (hz : rest.length ≤ sizeLine) (h : ∀ s', Inv X pins σ H s' → Q .none s') : wpAny (model X.prog X.w) A (PySem.call (.ref u) rest) Q E s := by
  obtain ⟨nm, q, N, bs, bm, sn, sub, ab, col, dd, k0, k1, k2, k3, k5, hC, hbm⟩ := T.cls
  obtain ⟨t1, ho⟩ := exo_at I.hok e
  have hCs := I.kIn _ _ hC
  obtain ⟨hp, g, d, t, os⟩ := s
  have fin : ∀ h', (∀ b o, b ≠ a → hp.get? b = some o → h'.get? b = some o) → h'.get? a = some ({ cls := .ref C, dict := none, data := .fields #[.ref hp.objs.size, .none, .none, .none, .bool false, .none] } : Obj) → Q .none ⟨h', g, d, t, os⟩ := fun h' k hx => by
    have J := I.write (t' := t) (x := a) (e := a) (o := exo a C none) (by rw [e]; exact True.intro) (.inl rfl) k ⟨_, hx⟩ (exo_ok hx)
    have eu : upd H a (exo a C none) = H := by
      funext b
      by_cases hb : b = a
      · rw [hb, upd_same, e]
      · rw [upd_ne hb]
    rw [eu] at J
    exact h _ J
  refine wpAny_call (codeAny_of_tree ?_)
  show wpAny _ A.in1 (callAny (.ref u) ⟨rest, []⟩) _ _ _
  simp only [callAny]
  refine wpAny_bind (wpAny_load hu ?_)
  simp only [PySem.W.kxs_mw, show (Value.type "method-wrapper" == Value.type "method" || Value.type "method-wrapper" == Value.type "builtin_function_or_method" || Value.type "method-wrapper" == Value.type "method-wrapper") = true by decide, if_true]
  refine PySem.W.KFB.if_so (by decide) ?_
  refine wpAny_bind (PySem.W.check_bound_init F.excBase_ValueError.toExcCallFacts hCs ho rfl ?_)
  refine wpAny_bind (wpAny_pure (wpAny_pure ?_))
  refine ⟨plainId_quiet F.excBase_ValueError.init.plain _, codeAny_builtin F.excBase_ValueError.initEntry ?_⟩
  exact PySem.W.exc_init_tree (cls := .ref C) (t0 := t1) (dv := none) (c2 := .none) (c3 := .none) (b4 := .bool false) ho hz fun h' k hx _ => fin h' k hx
end Ev
end

section
set_option linter.all false
set_option autoImplicit false
namespace Ev
open PySem PySem.Spec PySem.Calls PyProof.Rows L2
/-- super().__init__("text") -/
theorem super_init {X : L2.Cx} {body : List Stmt} {pins : List (Addr × Obj)} {σ : L2.St} {H : Hp} {s : Shared} {a C f cc cda : Addr} {fd : FuncData} {ar : Arg} {oc1 oc2 oc3 : Value} {od1 od2 od3 : Option Addr} {sl1 sl2 sl3 : Array (Option Value)} {fvs : Array Value} {file : Str} {tf : Tok} {t : Str} {j : Nat} {p0 p1 ap cp pos epos : Pos}
    {Q : Flow → Shared → Prop} {E : Value → Shared → Prop} (T : OexC X.K C) (I : Inv X pins σ H s) (e : H a = some (exo a C none)) (h0 : σ[0]? = some (some (.ref a))) (hN : X.N[0]? = some ar.arg) (hv : X.env.scope.names.lookup ar.arg = some .local)
    (hks : X.env.kindOf ("super" : Str) = some .globalImplicit) (hkc : X.env.kindOf ("__class__" : Str) = some .free) (hfu : X.env.func = some f) (hf : X.K.lookup f = some ⟨oc1, od1, .func fd, sl1⟩) (hp : (fd.params.posonlyargs ++ fd.params.args).head? = some ar)
    (hco : X.env.code = .ref cda) (hcd : X.K.lookup cda = some ⟨oc2, od2, .fields fvs, sl2⟩) (hvs : fvs[2]? = some (.str file tf)) (hfile : ((X.prog.main.file : Str) == file) = true) (htop : (X.prog.main.scope.names.lookup ("super" : Str)).isSome = false)
    (hcl : X.env.cells.lookup ("__class__" : Str) = some cc) (hcell : X.K.lookup cc = some ⟨oc3, od3, .cell (some (.ref C)), sl3⟩) (hsup : X.mg ("super" : Str) = none) (hsub : PySem.W.mroIn X.K C (.ref C) = some true) (hop : PySem.W.nsIn X.K cStatics "thirdparty.any" = some none)
    (hm : PySem.W.ks_superIn X.K C C "__init__" = some (some (.builtin "ValueError.__init__"))) (hB : PySem.W.subIn X.K (.ref C) (.type "ValueError") = some true) (hl : (ap.endLine == pos.line) = true)
    (hQ : ∀ s', Inv X pins σ H s' → Q .next s') :
    _root_.PySem.wpAt (model X.prog X.w) X.A (.func body X.env) (exec (.Expr (.Call (.Attribute (.Call (.Name "super" p0) [] [] p1) "__init__" ap) [.Constant (.str t) j cp] [] pos) epos) X.env) Q E s := by
  refine ks_wpAt_Expr_any ?_ I.quiet (by rfl)
  refine ks_wpAt_MethodCall (pl := plainOf (.Call (.Name "super" p0) [] [] p1) X.env) ?_ ?_
  · have X₀ := I.kIn
    have hcls := T
    obtain ⟨nm, q, N, bs, bm, sn, sub, ab, col, dd, k0, k1, k2, k3, k5, hC, hbm⟩ := T.cls
    have hcd1 : PySem.W.clsIn X.K C = some { name := nm, bases := bs, mro := .ref C :: bm, ns := N, qualname := q, hasDict := true, slotNames := sn, subclasses := sub, abstract := ab, collection := col, hasDel := false } := by unfold PySem.W.clsIn; rw [hC] <;> rfl
    obtain ⟨t1, ho⟩ := exo_at I.hok e
    obtain ⟨m, hns, hlk⟩ := id I.loc
    obtain ⟨u0, ru0, lk0⟩ := hlk 0 _ _ hN h0 (.inl hv)
    obtain rfl : u0 = Value.ref a := ru0
    have hself : m ar.arg = some (.ref a) := by
      rcases lk0 with ⟨_, h⟩ | ⟨h | h, _⟩
      · exact h
      · have h : X.env.scope.names.lookup ar.arg = some .cell := h
        rw [hv] at h; cases h
      · have h : X.env.scope.names.lookup ar.arg = some .free := h
        rw [hv] at h; cases h
    refine ks_wpAt_super_base hks hkc (by decide) hfu (X₀ _ _ hf) rfl hp hco (X₀ _ _ hcd) rfl hvs hfile htop ?_
    obtain ⟨mb, hb1, hb2⟩ := I.mod.blt
    refine PySem.W.ks_loadName_global I.ok.kind hks (Calls.loadGlobal_builtin (by rw [I.ok.glob]; exact I.mod.glob.keeps I.bk) hsup (by rw [I.ok.blt]; exact hb1.keeps I.bk) ((hb2 _ (by decide)).trans (show bootBuiltins ("super" : Str) = some (.type "super") from by decide +kernel)) ⟨rfl, ?_⟩)
    refine wpAny_loadName_free I.ok.kind hkc hcl ⟨_, X₀ _ _ hcell, rfl⟩ ?_
    refine wpAny_loadName_local I.ok.kind hv hns hself ?_
    obtain ⟨hh, g, d, tk, os⟩ := s
    have hCh := X₀ _ _ hC
    refine ks_wpAny_isType_cls hCh rfl ⟨rfl, ?_⟩
    refine ks_wpAny_call_super hCh rfl ho rfl (fun c z => nomatch z) (PySem.W.looks_mroIn X₀ hsub) fun h1 es k1 => ?_
    have I1 : Inv X pins σ H ⟨h1, g, d, tk, os⟩ := I.kept (t' := tk) k1
    have X1 := I1.kIn
    obtain ⟨t1', ho1⟩ := exo_at I1.hok e
    have hne : a ≠ C := fun z => by
      rw [z, X1 _ _ hC] at ho1
      cases ho1
    have hI : PySem.W.Looks (model X.prog X.w) h1 (isInstance (.ref a) (.type "ValueError")) true := (show PySem.W.Looks (model X.prog X.w) h1 (typeOf (.ref a)) (.ref C) from fun A Q E s k q => wpAny_typeOf_ref (k _ _ ho1) q).andThen (PySem.W.looks_subIn X1 hB)
    unfold PySem.W.ks_superIn at hm
    rw [hcd1] at hm
    refine PySem.W.kxs_getMethod PySem.W.kxs_ValueError es (PySem.W.looks_opaque X1 hop) (l₀ := .ref C :: bm) (fun A Q E s k q => wpAny_bind ((PySem.W.looks_clsIn X1 hcd1) A _ E s k (wpAny_pure q))) rfl X1 hm hI hne (by decide) ?_
    have I2 : Inv X pins σ H ⟨h1.push (PySem.W.kxs_mw "ValueError.__init__" a), g, d, tk + 1, os⟩ := I1.kept (t' := tk + 1) fun b o z => Heap.get?_push_of_some _ z
    refine PySem.W.kxs_callWith (i := "ValueError.__init__") (x := a) rfl ?_
    have hmw : (h1.push (PySem.W.kxs_mw "ValueError.__init__" a)).get? h1.objs.size = some (PySem.W.kxs_mw "ValueError.__init__" a) := Heap.get?_push_at rfl rfl
    show wpAny _ _ (evalArgs _ true ((false, eval (.Constant (.str t) j cp) X.env) :: []) []) _ _ _
    refine evalArgs_plain ?_
    refine (show wpAny _ _ (spliced (backTo pos (starEach [Expr.Constant (.str t) j cp] X.env))) _ _ _ from args_cons (Calls.Constant_str (args_nil ⟨hmw, ?_⟩)) rfl)
    exact call_mw hcls (I2.tok (tk + 1 + 1)) e hmw (by show 1 ≤ sizeLine; rw [sizeLine_eq]; omega) fun s' J => hQ s' J
  · rw [arm_eval_Call]
    congr 1
    funext ov
    congr 1
    funext _
    exact mcall_line rfl hl
end Ev
end

section
set_option linter.all false
set_option autoImplicit false
/-! EvX5: an own exception's __init__ keeps a promise. -/
namespace Ev
open PySem PySem.Spec PySem.Calls PyProof.Rows L2
/-- the stores self.f = p behind super().__init__(..) -/
def xSt (N : List Str) (sc : Scope) (self : Str) : List String → Nat → List Stmt → Bool
  | [], _, [] => true
  | f :: fs, i, .Assign [.Attribute (.Name s _) g _] (.Name p _) _ :: r => decide (s = self) && decide (g = sx f) && decide (N[i]? = some p) && decide (sc.names.lookup p = some .local) && !(p == ("__debug__" : Str)) && !(p == ("__classdict__" : Str)) && xSt N sc self fs (i + 1) r
  | _, _, _ => false
theorem upd_selfX {H : Hp} {a : Addr} {o : HO} (h : H a = some o) : upd H a o = H := by
  funext b
  by_cases hb : b = a
  · rw [hb, upd_same, h]
  · rw [upd_ne hb]
theorem upd_upd {H : Hp} {a : Addr} {o u : HO} : upd (upd H a o) a u = upd H a u := by
  funext b
  by_cases hb : b = a
  · rw [hb, upd_same, upd_same]
  · rw [upd_ne hb, upd_ne hb, upd_ne hb]
theorem xs_more {X : L2.Cx} {pins : List (Addr × Obj)} {σ : L2.St} {D : Ends} {a C dx : Addr} {self : Str} (T : OexC X.K C) (h0 : σ[0]? = some (some (.ref a))) (hN : X.N[0]? = some self) (hv : X.env.scope.names.lookup self = some .local) (d1 : (self == ("__debug__" : Str)) = false) (d2 : (self == ("__classdict__" : Str)) = false) (hda : dx ≠ a) :
    ∀ (fs : List String) (ys : List V) (i : Nat) (r : List Stmt) (gs : List (Str × V)) (H : Hp) (s : Shared), xSt X.N X.env.scope self fs i r = true → fs.length = ys.length → (∀ (j : Nat) (y : V), ys[j]? = some y → σ[i + j]? = some (some y)) → (∀ f ∈ fs, PySem.W.findIn X.K (.ref C) (sx f) = some none) → gs.length + fs.length ≤ 900 →
      Inv X pins σ H s → H a = some (exo a C (some dx)) → H dx = some (exd dx gs) → D.nx σ (upd H dx (exd dx (((fs.map sx).zip ys).reverse ++ gs))) → wpAny (model X.prog X.w) X.A (execs r X.env) (SP X pins D) X.xe s
  | [], ys, i, r, gs, H, s, hx, hl, hy, hf, hg, I, ea, ed, q => by
    cases r with
    | nil =>
      simp only [List.map_nil, List.zip_nil_left, List.reverse_nil, List.nil_append] at q
      rw [upd_selfX ed] at q
      exact wpAny_pure ⟨σ, H, I, q⟩
    | cons st r => simp [xSt] at hx
  | f :: fs, ys, i, r, gs, H, s, hx, hl, hy, hf, hg, I, ea, ed, q => by
    cases ys with
    | nil => simp at hl
    | cons y ys =>
      unfold xSt at hx
      split at hx
      · rename_i heq
        cases heq
      · rename_i i l0 i0 m0 f' fs' s' p1 g p2 p p3 p4 r' e1
        cases e1
        simp only [Bool.and_eq_true, decide_eq_true_eq, Bool.not_eq_true'] at hx
        obtain ⟨⟨⟨⟨⟨⟨rfl, rfl⟩, h3⟩, h4⟩, h5⟩, h6⟩, h7⟩ := hx
        have hp := ps_ost (X := X) (p' := p2) (pos := p4) (f := sx f) (pe_var (i := 0) (pos := p1) hN (.inl hv) d1 d2) (pe_var (i := i) (pos := p3) h3 (.inl h4) h5 h6)
        refine wpAny_execs_cons (thn (hp.run pins s σ H { D with nx := fun σ' H' => σ' = σ ∧ H' = upd H dx (exd dx ((sx f, y) :: gs)) } I ?_) fun fl s1 hs => ?_)
        · refine ⟨y, by have := hy 0 y rfl; simpa using this, .ref a, h0, a, C, rfl, T, hf f (by simp), .inr ⟨dx, gs, ea, ed, by simp at hg; omega, rfl, rfl⟩⟩
        · cases fl with
          | next =>
            obtain ⟨σ', H', I', rfl, rfl⟩ := hs
            refine xs_more T h0 hN hv d1 d2 hda fs ys (i + 1) r' ((sx f, y) :: gs) _ s1 h7 (by simpa using hl) (fun j z hz => by
              have := hy (j + 1) z (by simpa using hz)
              rwa [show i + (j + 1) = i + 1 + j by omega] at this) (fun g hg' => hf g (by simp [hg'])) (by simp at hg ⊢; omega) I' (by rw [upd_ne (Ne.symm hda)]; exact ea) upd_same ?_
            rw [upd_upd]
            simpa using q
          | ret u => exact hs
          | brk => exact hs
          | cont => exact hs
      · cases hx
end Ev
end

section
set_option linter.all false
set_option autoImplicit false
/-! EvX6: FnOk of an own exception's __init__. -/
namespace Ev
open PySem PySem.Spec PySem.Calls PyProof.Rows L2
def xHp (H : Hp) (a C dx : Addr) (fs : List String) (ys : List V) : Hp := upd (upd H a (exo a C (some dx))) dx (exd dx ((fs.map sx).zip ys).reverse)
theorem xs_all {X : L2.Cx} {pins : List (Addr × Obj)} {σ : L2.St} {D : Ends} {a C : Addr} {self : Str} (T : OexC X.K C) (h0 : σ[0]? = some (some (.ref a))) (hN : X.N[0]? = some self) (hv : X.env.scope.names.lookup self = some .local) (d1 : (self == ("__debug__" : Str)) = false) (d2 : (self == ("__classdict__" : Str)) = false)
    (f : String) (fs : List String) (ys : List V) (r : List Stmt) (H : Hp) (s : Shared) (hx : xSt X.N X.env.scope self (f :: fs) 1 r = true) (hl : (f :: fs).length = ys.length) (hy : ∀ (j : Nat) (y : V), ys[j]? = some y → σ[1 + j]? = some (some y)) (hf : ∀ g ∈ f :: fs, PySem.W.findIn X.K (.ref C) (sx g) = some none) (hg : fs.length ≤ 800)
    (I : Inv X pins σ H s) (ea : H a = some (exo a C none)) (q : ∀ dx, H dx = none → dx ≠ a → D.nx σ (xHp H a C dx (f :: fs) ys)) : wpAny (model X.prog X.w) X.A (execs r X.env) (SP X pins D) X.xe s := by
  cases ys with
  | nil => simp at hl
  | cons y ys =>
    unfold xSt at hx
    split at hx
    · rename_i heq
      cases heq
    · rename_i l0 i0 m0 f' fs' s' p1 g p2 p p3 p4 r' e1
      cases e1
      simp only [Bool.and_eq_true, decide_eq_true_eq, Bool.not_eq_true'] at hx
      obtain ⟨⟨⟨⟨⟨⟨rfl, rfl⟩, h3⟩, h4⟩, h5⟩, h6⟩, h7⟩ := hx
      have hp := ps_ost (X := X) (p' := p2) (pos := p4) (f := sx f) (pe_var (i := 0) (pos := p1) hN (.inl hv) d1 d2) (pe_var (i := 1) (pos := p3) h3 (.inl h4) h5 h6)
      refine wpAny_execs_cons (thn (hp.run pins s σ H { D with nx := fun σ' H' => σ' = σ ∧ ∃ dx, H dx = none ∧ dx ≠ a ∧ H' = upd (upd H dx (exd dx [(sx f, y)])) a (exo a C (some dx)) } I ?_) fun fl s1 hs => ?_)
      · refine ⟨y, by have := hy 0 y rfl; simpa using this, .ref a, h0, a, C, rfl, T, hf f (by simp), .inl ⟨ea, fun dx n ne => ⟨rfl, dx, n, ne, rfl⟩⟩⟩
      · cases fl with
        | next =>
          obtain ⟨σ', H', I', rfl, dx, n, ne, rfl⟩ := hs
          refine xs_more T h0 hN hv d1 d2 ne fs ys 2 r' [(sx f, y)] _ s1 h7 (by simpa using hl) (fun j z hz => by
            have := hy (j + 1) z (by simpa using hz)
            rwa [show 1 + (j + 1) = 2 + j by omega] at this) (fun g hg' => hf g (by simp [hg'])) (by simp; omega) I' upd_same (by rw [upd_ne ne]; exact upd_same) ?_
          have := q dx n ne
          refine Eq.mp (congrArg (D.nx σ') ?_) this
          funext b
          unfold xHp
          by_cases hb : b = dx
          · rw [hb, upd_same, upd_same]
            simp
          · rw [upd_ne hb, upd_ne hb]
            by_cases hba : b = a
            · rw [hba, upd_same, upd_same]
            · rw [upd_ne hba, upd_ne hba, upd_ne hb]
        | ret u => exact hs
        | brk => exact hs
        | cont => exact hs
    · cases hx
/-- the whole body -/
def xBody (N : List Str) (sc : Scope) (self : Str) (fs : List String) : List Stmt → Bool
  | .Expr (.Call (.Attribute (.Call (.Name s _) [] [] _) m ap) [.Constant (.str _) _ _] [] pos) _ :: r => decide (s = ("super" : Str)) && decide (m = ("__init__" : Str)) && ap.endLine == pos.line && xSt N sc self fs 1 r
  | _ => false
/-- where the __init__ of the class C stands -/
structure XD where
  name : Str
  qual : Str
  params : Arguments
  body : List Stmt
  scope : Scope
  dV : Value
  kV : Value
  doc : Value
  pm : Value
  an : Option Addr
  cda : Addr
  ct : Value
  cc : Addr
  ar : Arg
  oc1 : Value
  od1 : Option Addr
  sl1 : Array (Option Value)
  oc2 : Value
  od2 : Option Addr
  sl2 : Array (Option Value)
  fvs : Array Value
  file : Str
  tf : Tok
  oc3 : Value
  od3 : Option Addr
  sl3 : Array (Option Value)
  N : List Str
  P : List Str
def XD.fd (d : XD) : FuncData := PySem.W.ksFn d.name d.qual d.params d.body d.scope d.dV d.kV d.doc d.pm d.an (.ref d.cda) d.ct d.cc
structure XAt (K : PySem.W.Frag) (mg : Str → Option Value) (prog : Program) (C f : Addr) (fs : List String) (d : XD) : Prop where
  T : OexC K C
  lk : K.lookup f = some ⟨d.oc1, d.od1, .func d.fd, d.sl1⟩
  code : PySem.W.codeIn K (.ref d.cda) d.qual = true
  sc : ExScope d.N d.P d.scope
  lP : d.P.length = fs.length + 1
  ne : fs ≠ []
  few : fs.length ≤ 800
  N0 : d.N[0]? = some d.ar.arg
  loc : d.scope.names.lookup d.ar.arg = some .local
  d1 : (d.ar.arg == ("__debug__" : Str)) = false
  d2 : (d.ar.arg == ("__classdict__" : Str)) = false
  sup : d.scope.names.lookup ("super" : Str) = some .globalImplicit
  cls : d.scope.names.lookup ("__class__" : Str) = some .free
  hd : (d.params.posonlyargs ++ d.params.args).head? = some d.ar
  cd : K.lookup d.cda = some ⟨d.oc2, d.od2, .fields d.fvs, d.sl2⟩
  f2 : d.fvs[2]? = some (.str d.file d.tf)
  fl : ((prog.main.file : Str) == d.file) = true
  top : (prog.main.scope.names.lookup ("super" : Str)).isSome = false
  cell : K.lookup d.cc = some ⟨d.oc3, d.od3, .cell (some (.ref C)), d.sl3⟩
  mgs : mg ("super" : Str) = none
  mro : PySem.W.mroIn K C (.ref C) = some true
  op : PySem.W.nsIn K cStatics "thirdparty.any" = some none
  ini : PySem.W.ks_superIn K C C "__init__" = some (some (.builtin "ValueError.__init__"))
  sub : PySem.W.subIn K (.ref C) (.type "ValueError") = some true
  flds : ∀ g ∈ fs, PySem.W.findIn K (.ref C) (sx g) = some none
  body : xBody d.N d.scope d.ar.arg fs d.body = true
  a1 : d.params.posonlyargs = []
  a2 : d.params.args.map (·.arg) = d.P
  a3 : d.params.vararg = none
  a4 : d.params.kwonlyargs = []
  a5 : d.params.kwarg = none
  a6 : d.dV = .none
def spX (C : Addr) (fs : List String) : Sp := fun vs H Q _ => ∃ (a : Addr) (ys : List V), vs = .ref a :: ys ∧ ys.length = fs.length ∧ H a = some (exo a C none) ∧ ∀ dx, H dx = none → dx ≠ a → Q .non (xHp H a C dx fs ys)
theorem x_fnok {prog : Program} {w : World} {K : PySem.W.Frag} {mg : Str → Option Value} {base : Heap} {CX : CXT} {C f : Addr} {fs : List String} {d : XD} (h : XAt K mg prog C f fs d) : FnOk prog w K mg base CX 0 f d.fd d.P (spX C fs) := by
  refine ⟨fun vs H Q E ⟨a, ys, e, l, _⟩ => by rw [e, List.length_cons, l, h.lP], fun A outer s H args us vs Q E hr e0 hb r ⟨a, ys, ev, ly, ea, q⟩ => ?_⟩
  have hl : vs.length = d.P.length := by rw [ev, List.length_cons, ly, h.lP]
  have KX : K.In s.heap := e0.mod.kin.keeps fun b o e => (e0.bs b o e).1
  have lim : s.heap.NoLimit := e0.mod.nolimit.keeps fun b o e => (e0.bs b o e).1
  refine ks_codeAny_call_defAt (fd := d.fd) (body := d.body) (binds := d.P.zip us) hr.depth (KX _ _ h.lk) rfl lim (PySem.W.codeRec_of KX h.code) rfl hb (fun x hx => h.sc.nocell x hx) (fun ⟨n, v⟩ hy => h.sc.par n (List.of_mem_zip hy).1) (fun h₀ hns hk => ?_) h.sc.co h.sc.gen h.sc.kind
  have hkind : ∀ x k, d.scope.names.lookup x = some k → (PySem.W.ksEnv d.qual d.scope s.heap.objs.size f (.ref d.cda) d.cc).kindOf x = some k := fun x k hk => hk
  have hb0 := h.body
  unfold xBody at hb0
  split at hb0
  · rename_i s0 p0 p1 m ap t j cp pos epos rest hbody
    simp only [Bool.and_eq_true, decide_eq_true_eq] at hb0
    obtain ⟨⟨⟨rfl, rfl⟩, hline⟩, hst⟩ := hb0
    have I := inv_startX (P := prog) (w := w) (mg := mg) (qual := d.qual) (f := f) (cd := .ref d.cda) (cc := d.cc) (E := fun e s' => wpAny (model prog w) (A.deeper (PySem.W.ksEnv d.qual d.scope s.heap.objs.size f (.ref d.cda) d.cc)) (leaving (PySem.W.ksEnv d.qual d.scope s.heap.objs.size f (.ref d.cda) d.cc) e) (fun _ s'' => CR CX outer prog w H s Q E (.error e) s'') (fun e' s'' => CR CX outer prog w H s Q E (.error e') s'') s') (tk := s.toks + (d.P.zip us).length) h.sc hr.hd e0 hl r h.cell rfl hns hk
    have s0 : (L2.start d.N vs)[0]? = some (some (.ref a)) := by rw [ev]; rfl
    have s1 : ∀ (j : Nat) (y : V), ys[j]? = some y → (L2.start d.N vs)[1 + j]? = some (some y) := fun j y hy => by
      have hj : j < ys.length := (List.getElem?_eq_some_iff.mp hy).1
      rw [ev]
      unfold L2.start
      rw [List.map_cons, List.cons_append, Nat.add_comm 1 j, List.getElem?_cons_succ, List.getElem?_append_left (by simpa using hj), List.getElem?_map, hy]
      rfl
    rw [hbody]
    refine ks_wpAt_execs_cons (super_init h.T I ea s0 h.N0 h.loc (hkind _ _ h.sup) (hkind _ _ h.cls) rfl h.lk h.hd rfl h.cd h.f2 h.fl h.top rfl h.cell h.mgs h.mro h.op h.ini h.sub hline (fun s' J => ?_))
    refine wpAt_of_wpAny ?_
    obtain ⟨f1, fs', hfs⟩ : ∃ f1 fs', fs = f1 :: fs' := by
      cases hf : fs with
      | nil => exact absurd hf h.ne
      | cons x y => exact ⟨x, y, rfl⟩
    have hfew := h.few
    have hflds := h.flds
    subst hfs
    refine wpAny_mono (xs_all (D := { nx := fun _ H' => Q .non H', rt := Q }) h.T s0 h.N0 h.loc h.d1 h.d2 f1 fs' ys rest H s' hst ly.symm s1 hflds (by simp at hfew; omega) J ea q) (fun fl s'' hs => ?_) fun _ _ x => x
    have fin : ∀ {σ' : L2.St} {H' : Hp} {v : V} {u : Value}, Inv (cxX prog w K mg base d.N d.qual d.scope f d.cc (.ref d.cda) A outer s H (fun e s' => wpAny (model prog w) (A.deeper (PySem.W.ksEnv d.qual d.scope s.heap.objs.size f (.ref d.cda) d.cc)) (leaving (PySem.W.ksEnv d.qual d.scope s.heap.objs.size f (.ref d.cda) d.cc) e) (fun _ s'' => CR CX outer prog w H s Q E (.error e) s'') (fun e' s'' => CR CX outer prog w H s Q E (.error e') s'') s')) [] σ' H' s'' → RelV v u → Q v H' → CE outer prog w H s Q u s'' :=
      fun {σ' H' v u} J rv q => ⟨v, H', J.os, J.bare, J.base, J.hok, rv, q⟩
    cases fl with
    | ret u =>
      obtain ⟨v, σ', H', J', rv, q'⟩ := hs
      exact fin J' rv q'
    | next =>
      obtain ⟨σ', H', J', q'⟩ := hs
      exact fin (v := V.non) (u := Value.none) J' rfl q'
    | brk =>
      obtain ⟨_, _, _, q'⟩ := hs
      exact False.elim q'
    | cont =>
      obtain ⟨_, _, _, q'⟩ := hs
      exact False.elim q'
  · cases hb0
end Ev
end

section
set_option linter.all false
set_option autoImplicit false
/-! EvB: the binding of arguments: no defaults in use. -/
namespace Ev
open PySem L2
theorem look_none {α : Type} {k : Str} : ∀ {l : List (Str × α)}, k ∉ l.map (·.1) → l.lookup k = none
  | [], _ => rfl
  | (x, v) :: l, h => by
    simp only [List.map_cons, List.mem_cons, not_or] at h
    have hb : (k == x) = false := by simpa using h.1
    simp only [List.lookup, hb]
    exact look_none h.2
theorem look_zip {α : Type} {k : Str} : ∀ {P : List Str} {us : List α}, us.length = P.length → k ∈ P → ((P.zip us).lookup k).isSome = true
  | [], _, _, h => by cases h
  | p :: P, [], h, _ => by cases h
  | p :: P, u :: us, h, hk => by
    by_cases he : k = p
    · subst he; simp
    · have hb : (k == p) = false := by simpa using he
      simp only [List.zip_cons_cons, List.lookup, hb]
      exact look_zip (by simpa using h) (by simpa [he] using hk)
theorem fmap_zip {α : Type} : ∀ {P : List Str} {us : List α}, us.length = P.length → P.Nodup → P.filterMap (fun n => ((P.zip us).lookup n).map fun v => (n, v)) = P.zip us := by
  intro P
  have key : ∀ (P : List Str) (us : List α) (pre : List (Str × α)), us.length = P.length → P.Nodup → (∀ n ∈ P, n ∉ pre.map (·.1)) → P.filterMap (fun n => ((pre ++ P.zip us).lookup n).map fun v => (n, v)) = P.zip us := by
    intro P
    induction P with
    | nil => intro us pre h _ _; cases us <;> rfl
    | cons p P ih =>
      intro us pre h nd hp
      cases us with
      | nil => cases h
      | cons u us =>
        have hl : (pre ++ (p, u) :: P.zip us).lookup p = some u := by
          have : ∀ (pre : List (Str × α)), p ∉ pre.map (·.1) → (pre ++ (p, u) :: P.zip us).lookup p = some u := by
            intro pre
            induction pre with
            | nil => intro _; simp
            | cons q pre ih2 =>
              intro h
              obtain ⟨x, v⟩ := q
              simp only [List.map_cons, List.mem_cons, not_or] at h
              have hb : (p == x) = false := by simpa using h.1
              simp only [List.cons_append, List.lookup, hb]
              exact ih2 h.2
          exact this pre (hp p (by simp))
        rw [List.zip_cons_cons, List.filterMap_cons, hl]
        simp only [Option.map_some]
        congr 1
        have := ih us (pre ++ [(p, u)]) (by simpa using h) (List.nodup_cons.mp nd).2 (fun n hn => by
          simp only [List.map_append, List.map_cons, List.map_nil, List.mem_append, List.mem_singleton, not_or]
          exact ⟨hp n (by simp [hn]), fun e => (List.nodup_cons.mp nd).1 (e ▸ hn)⟩)
        simpa [List.append_assoc] using this
  intro us h nd
  simpa using key P us [] h nd (by simp)
theorem loop_kw {β : Type} {f : Str × Value → List (Str × Value) × List β → Sem (ForInStep (List (Str × Value) × List β))} : ∀ (rest sl : List (Str × Value)), (∀ k v sl, (k, v) ∈ rest → sl.lookup k = none → f (k, v) (sl, []) = pure (.yield (sl ++ [(k, v)], []))) → ((sl ++ rest).map (·.1)).Nodup →
    forIn rest (sl, []) f = pure (sl ++ rest, [])
  | [], sl, _, _ => by rw [List.forIn_nil, List.append_nil]
  | (k, v) :: rest, sl, hf, nd => by
    rw [List.forIn_cons]
    have hk : k ∉ sl.map (·.1) := by
      rw [List.map_append, List.map_cons] at nd
      have := (List.nodup_append.mp nd).2.2
      intro h
      exact this k h k (by simp) rfl
    rw [hf k v sl (by simp) (look_none hk)]
    simp only [pure_bind]
    rw [loop_kw rest (sl ++ [(k, v)]) (fun k v sl h => hf k v sl (by simp [h])) (by simpa [List.append_assoc] using nd)]
    simp [List.append_assoc]
theorem loop_only {σ : Type} {f : Str → σ → Sem (ForInStep σ)} {s : σ} : ∀ (l : List Str), (∀ k ∈ l, f k s = pure (.yield s)) → forIn l s f = pure s
  | [], _ => by rw [List.forIn_nil]
  | k :: l, hf => by
    rw [List.forIn_cons, hf k (by simp)]
    simp only [pure_bind]
    exact loop_only l fun k h => hf k (by simp [h])
theorem bind_all (fd : FuncData) (P Kn : List Str) (us ws : List Value) (h1 : fd.params.posonlyargs = []) (h2 : fd.params.args.map (·.arg) = P) (h3 : fd.params.vararg = none) (h4 : fd.params.kwonlyargs.map (·.arg) = Kn) (h5 : fd.params.kwarg = none) (h6 : seqItems? fd.defaults = pure none)
    (hu : us.length = P.length) (hw : ws.length = Kn.length) (nd : (P ++ Kn).Nodup) : bindArgs fd ⟨us, Kn.zip ws⟩ = pure ((P ++ Kn).zip (us ++ ws)) := by
  have hz : P.zip us ++ Kn.zip ws = (P ++ Kn).zip (us ++ ws) := (List.zip_append hu.symm).symm
  have hl : (us ++ ws).length = (P ++ Kn).length := by simp [hu, hw]
  have hm : ((P.zip us ++ Kn.zip ws).map (·.1)) = P ++ Kn := by
    rw [hz]
    exact List.map_fst_zip (by omega)
  unfold bindArgs
  simp only [h1, h2, h3, h4, h5, h6, List.map_nil, List.nil_append]
  rw [loop_kw (Kn.zip ws) (P.zip us) (fun k v sl hk hn => by
    have : Kn.contains k = true := by simpa using (List.of_mem_zip hk).1
    simp only [this, Bool.or_true, if_true, hn]
    rfl) (by rw [hm]; exact nd)]
  simp only [pure_bind, Option.getD_none, hz]
  have e1 : ¬ ((decide (us.length > P.length) && (none : Option Arg).isNone) = true) := by simp [hu]
  rw [if_neg e1]
  have e2 : List.filter (fun n => (List.lookup n ((P ++ Kn).zip (us ++ ws))).isNone) P = [] := by
    rw [List.filter_eq_nil_iff]
    intro n hn
    have := look_zip hl (k := n) (by simp [hn])
    cases hq : List.lookup n ((P ++ Kn).zip (us ++ ws)) with
    | none => rw [hq] at this; cases this
    | some _ => simp
  simp only [List.toList_toArray, List.length_nil, Nat.zero_sub, List.drop_zero, Nat.sub_zero, List.take_length, List.drop_length, List.zip_nil_left, List.forIn_nil, e2, List.isEmpty_nil, Bool.not_true, Bool.false_eq_true, if_false, pure_bind]
  rw [loop_only Kn fun n hn => by
    have := look_zip hl (k := n) (by simp [hn])
    cases hq : List.lookup n ((P ++ Kn).zip (us ++ ws)) with
    | none => rw [hq] at this; cases this
    | some _ => rfl]
  simp only [pure_bind, List.isEmpty_nil, Bool.not_true, Bool.false_eq_true, if_false]
  rw [fmap_zip hl nd]
end Ev
end

section
set_option linter.all false
set_option autoImplicit false
/-! EvS1: how a heap bears a store. -/
namespace Ev
open PySem L2

/-- the module's names and classes: addresses -/
structure Names where
  cls : String → Addr
  fnA : String → String → Addr

/-- what is seen of a heap: the abstract heap, where the store's places lie, how many -/
structure Vw where
  H : Hp
  ρ : Nat → Addr
  n : Nat
def Vw.live (v : Vw) (a : Addr) : Prop := ∃ m, m < v.n ∧ v.ρ m = a

/-- a tuple that never changes -/
def TupAt (K : PySem.W.Frag) (v : Vw) (a : Addr) (xs : List V) : Prop :=
  (v.H a = some (.tup xs) ∧ ¬ v.live a) ∨
    ∃ (o : Obj) (its : Array Value) (n : Nat), K.lookup a = some o ∧ o.cls = .type "tuple" ∧ o.data = .seq its n ∧ its.size ≤ sizeLine ∧ Vals xs its.toList
theorem TupAt.sq {K : PySem.W.Frag} {v : Vw} {a : Addr} {xs : List V} (h : TupAt K v a xs) : SqT K v.H a xs := by
  rcases h with ⟨h, _⟩ | h
  · exact .inl (.inl h)
  · exact .inr h

section
variable (K : PySem.W.Frag) (M : Names) (v : Vw)
mutual
def Rep : D → V → Prop
  | .non, x => x = .non
  | .bl b, x => x = .bl b
  | .int i, x => x = .int i
  | .str s, x => x = .str (tx s)
  | .tup l, x => ∃ a xs, x = .ref a ∧ TupAt K v a xs ∧ RepL l xs
  | .obj C fs, x => ∃ a dx gs, x = .ref a ∧ v.H a = some (.ins (M.cls C) dx gs) ∧ ¬ v.live a ∧ RepF fs gs
  | .fn f, x => x = .ref (M.fnA "" f)
def RepL : List D → List V → Prop
  | [], xs => xs = []
  | d :: ds, xs => ∃ y ys, xs = y :: ys ∧ Rep d y ∧ RepL ds ys
def RepF : List (String × D) → List (Str × V) → Prop
  | [], gs => gs = []
  | (f, d) :: r, gs => ∃ y ys, gs = (sx f, y) :: ys ∧ Rep d y ∧ RepF r ys
end
def RepW : W → V → Prop
  | .d x, y => Rep K M v x y
  | .r m, y => m < v.n ∧ y = .ref (v.ρ m)
def RepWs : List W → List V → Prop
  | [], xs => xs = []
  | w :: ws, xs => ∃ y ys, xs = y :: ys ∧ RepW K M v w y ∧ RepWs ws ys
def RepWF : List (String × W) → List (Str × V) → Prop
  | [], gs => gs = []
  | (f, w) :: r, gs => ∃ y ys, gs = (sx f, y) :: ys ∧ RepW K M v w y ∧ RepWF r ys
def keyD : D → Option Key
  | .int i => some (.inl i)
  | .str s => some (.inr (tx s))
  | _ => none
def RepK : List (D × W) → List (Key × V) → Prop
  | [], gs => gs = []
  | (d, w) :: r, gs => ∃ k y ys, gs = (k, y) :: ys ∧ keyD d = some k ∧ RepW K M v w y ∧ RepK r ys
/-- an object of the store, at its place -/
def RepO : Ob → Addr → Prop
  | .lst l, a => ∃ xs, v.H a = some (.lst xs) ∧ RepWs K M v l xs
  | .fro l, a => ∃ o xs, v.H a = some (.frz o (.lst xs)) ∧ RepWs K M v l xs
  | .ins C fs, a => ∃ dx gs, v.H a = some (.ins (M.cls C) dx gs) ∧ RepWF K M v fs gs
  | .dic kvs, a => ∃ gs, v.H a = some (.dK gs) ∧ RepK K M v kvs gs
  | .exc C fs, a => (fs = [] ∧ v.H a = some (exo a (M.cls C) none)) ∨ ∃ dx gs hs, v.H a = some (exo a (M.cls C) (some dx)) ∧ v.H dx = some (exd dx hs) ∧ ¬ v.live dx ∧ RepWF K M v fs gs ∧ ∀ f y, gs.lookup f = some y → hs.lookup f = some y
/-- the heap bears the store -/
structure Sim (S : Store) : Prop where
  n : v.n = S.length
  inj : ∀ i j, i < v.n → j < v.n → v.ρ i = v.ρ j → i = j
  ob : ∀ i o, S[i]? = some o → RepO K M v o (v.ρ i)
/-- the slots -/
def RepE (e : En) (σ : St) : Prop := e.length = σ.length ∧ ∀ (i : Nat) w, e[i]? = some (some w) → ∃ y, σ[i]? = some (some y) ∧ RepW K M v w y
end

/-- a later view -/
structure Nx (v w : Vw) : Prop where
  le : v.n ≤ w.n
  ρ : ∀ m, m < v.n → w.ρ m = v.ρ m
  new : ∀ m, v.n ≤ m → m < w.n → v.H (w.ρ m) = none
  keep : ∀ a o, v.H a = some o → ¬ v.live a → w.H a = some o
  dom : ∀ a, v.H a ≠ none → w.H a ≠ none
theorem Nx.refl (v : Vw) : Nx v v := ⟨Nat.le_refl _, fun _ _ => rfl, fun m h1 h2 => absurd h2 (Nat.not_lt.mpr h1), fun _ _ h _ => h, fun _ h => h⟩
theorem Nx.notLive {v w : Vw} (x : Nx v w) {a : Addr} {o : HO} (h : v.H a = some o) (nl : ¬ v.live a) : ¬ w.live a := fun ⟨m, hm, e⟩ => by
  by_cases hv : m < v.n
  · exact nl ⟨m, hv, (x.ρ m hv).symm.trans e⟩
  · have z := x.new m (Nat.not_lt.mp hv) hm
    rw [e, h] at z
    cases z
theorem Nx.trans {u v w : Vw} (a : Nx u v) (b : Nx v w) : Nx u w where
  le := Nat.le_trans a.le b.le
  ρ := fun m h => (b.ρ m (Nat.lt_of_lt_of_le h a.le)).trans (a.ρ m h)
  new := fun m h1 h2 => by
    by_cases hv : m < v.n
    · rw [b.ρ m hv]
      exact a.new m h1 hv
    · have z := b.new m (Nat.not_lt.mp hv) h2
      cases e : u.H (w.ρ m) with
      | none => rfl
      | some o => exact absurd z (a.dom _ (by rw [e]; exact fun z => nomatch z))
  keep := fun x o h nl => b.keep x o (a.keep x o h nl) (a.notLive h nl)
  dom := fun x h => b.dom x (a.dom x h)

section
variable {K : PySem.W.Frag} {M : Names} {v w : Vw}
theorem TupAt.mono (x : Nx v w) {a : Addr} {xs : List V} (h : TupAt K v a xs) : TupAt K w a xs := by
  rcases h with ⟨h, nl⟩ | h
  · exact .inl ⟨x.keep a _ h nl, x.notLive h nl⟩
  · exact .inr h
mutual
theorem Rep.mono (x : Nx v w) : ∀ (d : D) (y : V), Rep K M v d y → Rep K M w d y
  | .non, _, h => h
  | .bl _, _, h => h
  | .int _, _, h => h
  | .str _, _, h => h
  | .tup l, _, h => by
    simp only [Rep] at h ⊢
    obtain ⟨a, xs, e, t, r⟩ := h
    exact ⟨a, xs, e, t.mono x, RepL.mono x l xs r⟩
  | .obj C fs, _, h => by
    simp only [Rep] at h ⊢
    obtain ⟨a, dx, gs, e, t, nl, r⟩ := h
    exact ⟨a, dx, gs, e, x.keep _ _ t nl, x.notLive t nl, RepF.mono x fs gs r⟩
  | .fn _, _, h => h
theorem RepL.mono (x : Nx v w) : ∀ (l : List D) (ys : List V), RepL K M v l ys → RepL K M w l ys
  | [], _, h => h
  | d :: ds, _, h => by
    simp only [RepL] at h ⊢
    obtain ⟨y, ys, e, r, q⟩ := h
    exact ⟨y, ys, e, Rep.mono x d y r, RepL.mono x ds ys q⟩
theorem RepF.mono (x : Nx v w) : ∀ (l : List (String × D)) (ys : List (Str × V)), RepF K M v l ys → RepF K M w l ys
  | [], _, h => h
  | (f, d) :: ds, _, h => by
    simp only [RepF] at h ⊢
    obtain ⟨y, ys, e, r, q⟩ := h
    exact ⟨y, ys, e, Rep.mono x d y r, RepF.mono x ds ys q⟩
end
theorem RepW.mono (x : Nx v w) : ∀ {u : W} {y : V}, RepW K M v u y → RepW K M w u y
  | .d d, y, h => Rep.mono x d y h
  | .r m, _, ⟨h, e⟩ => ⟨Nat.lt_of_lt_of_le h x.le, by rw [x.ρ m h]; exact e⟩
theorem RepWs.mono (x : Nx v w) : ∀ {l : List W} {ys : List V}, RepWs K M v l ys → RepWs K M w l ys
  | [], _, h => h
  | _ :: _, _, ⟨y, ys, e, r, q⟩ => ⟨y, ys, e, r.mono x, RepWs.mono x q⟩
theorem RepWF.mono (x : Nx v w) : ∀ {l : List (String × W)} {ys : List (Str × V)}, RepWF K M v l ys → RepWF K M w l ys
  | [], _, h => h
  | (_, _) :: _, _, ⟨y, ys, e, r, q⟩ => ⟨y, ys, e, r.mono x, RepWF.mono x q⟩
theorem RepK.mono (x : Nx v w) : ∀ {l : List (D × W)} {ys : List (Key × V)}, RepK K M v l ys → RepK K M w l ys
  | [], _, h => h
  | (_, _) :: _, _, ⟨k, y, ys, e, kd, r, q⟩ => ⟨k, y, ys, e, kd, r.mono x, RepK.mono x q⟩
theorem RepE.mono (x : Nx v w) {e : En} {σ : St} (h : RepE K M v e σ) : RepE K M w e σ := ⟨h.1, fun i u hi => by
  obtain ⟨y, h1, h2⟩ := h.2 i u hi
  exact ⟨y, h1, h2.mono x⟩⟩
theorem RepO.mono (x : Nx v w) {o : Ob} {a : Addr} (hk : w.H a = v.H a) (h : RepO K M v o a) : RepO K M w o a := by
  cases o with
  | lst l => obtain ⟨xs, e, r⟩ := h; exact ⟨xs, hk.trans e, r.mono x⟩
  | fro l => obtain ⟨o, xs, e, r⟩ := h; exact ⟨o, xs, hk.trans e, r.mono x⟩
  | ins C fs => obtain ⟨dx, gs, e, r⟩ := h; exact ⟨dx, gs, hk.trans e, r.mono x⟩
  | dic kvs => obtain ⟨gs, e, r⟩ := h; exact ⟨gs, hk.trans e, r.mono x⟩
  | exc C fs =>
    rcases h with ⟨h0, e⟩ | ⟨dx, gs, hs, e, e2, nl, r, hl⟩
    · exact .inl ⟨h0, hk.trans e⟩
    · exact .inr ⟨dx, gs, hs, hk.trans e, x.keep dx _ e2 nl, x.notLive e2 nl, r.mono x, hl⟩
/-! ### rows -/
theorem RepL.len : ∀ {l : List D} {xs : List V}, RepL K M v l xs → xs.length = l.length
  | [], _, h => by simp only [RepL] at h; subst h; rfl
  | d :: ds, _, h => by
    simp only [RepL] at h
    obtain ⟨y, ys, rfl, _, q⟩ := h
    simp [RepL.len q]
theorem RepWs.len : ∀ {l : List W} {xs : List V}, RepWs K M v l xs → xs.length = l.length
  | [], _, h => by cases h; rfl
  | _ :: _, _, ⟨y, ys, e, _, q⟩ => by subst e; simp [RepWs.len q]
theorem RepWs.ofL : ∀ {l : List D} {xs : List V}, RepL K M v l xs → RepWs K M v (l.map W.d) xs
  | [], _, h => h
  | d :: ds, _, h => by
    simp only [RepL] at h
    obtain ⟨y, ys, e, r, q⟩ := h
    exact ⟨y, ys, e, r, RepWs.ofL q⟩
theorem RepL.ofWs : ∀ {l : List W} {ds : List D} {xs : List V}, toD l = some ds → RepWs K M v l xs → RepL K M v ds xs
  | [], _, _, h, r => by
    cases h
    exact r
  | .d x :: l, _, _, h, ⟨y, ys, e, r, q⟩ => by
    simp only [toD, Option.map_eq_some_iff] at h
    obtain ⟨ds, hd, rfl⟩ := h
    simp only [RepL]
    exact ⟨y, ys, e, r, RepL.ofWs hd q⟩
  | .r _ :: _, _, _, h, _ => by simp [toD] at h
theorem RepWs.get : ∀ {l : List W} {xs : List V} {i : Nat} {u : W}, RepWs K M v l xs → l[i]? = some u → ∃ y, xs[i]? = some y ∧ RepW K M v u y
  | [], _, _, _, _, h => by simp at h
  | _ :: _, _, 0, _, ⟨y, ys, e, r, q⟩, h => by
    subst e
    simp at h
    subst h
    exact ⟨y, rfl, r⟩
  | _ :: _, _, i + 1, _, ⟨y, ys, e, r, q⟩, h => by
    subst e
    obtain ⟨z, h1, h2⟩ := RepWs.get (i := i) q (by simpa using h)
    exact ⟨z, by simpa using h1, h2⟩
theorem RepWs.app : ∀ {l m : List W} {xs ys : List V}, RepWs K M v l xs → RepWs K M v m ys → RepWs K M v (l ++ m) (xs ++ ys)
  | [], _, _, _, h, g => by cases h; exact g
  | _ :: _, _, _, _, ⟨y, ys, e, r, q⟩, g => by
    subst e
    exact ⟨y, _, rfl, r, q.app g⟩
theorem RepWs.one {u : W} {y : V} (h : RepW K M v u y) : RepWs K M v [u] [y] := ⟨y, [], rfl, h, rfl⟩
theorem RepWs.take : ∀ {l : List W} {xs : List V} (n : Nat), RepWs K M v l xs → RepWs K M v (l.take n) (xs.take n)
  | _, _, 0, _ => by simp [RepWs]
  | [], _, _ + 1, h => by cases h; simp [RepWs]
  | _ :: _, _, n + 1, ⟨y, ys, e, r, q⟩ => by
    subst e
    exact ⟨y, _, rfl, r, q.take n⟩
theorem RepWs.drop : ∀ {l : List W} {xs : List V} (n : Nat), RepWs K M v l xs → RepWs K M v (l.drop n) (xs.drop n)
  | _, _, 0, h => by simpa using h
  | [], _, _ + 1, h => by cases h; simp [RepWs]
  | _ :: _, _, n + 1, ⟨y, ys, e, r, q⟩ => by
    subst e
    simpa using q.drop n
theorem RepL.take {l : List D} {xs : List V} : ∀ (n : Nat), RepL K M v l xs → RepL K M v (l.take n) (xs.take n) := by
  induction l generalizing xs with
  | nil => intro n h; simp only [RepL] at h; subst h; simp [RepL]
  | cons d ds ih =>
    intro n h
    simp only [RepL] at h
    obtain ⟨y, ys, rfl, r, q⟩ := h
    cases n with
    | zero => simp [RepL]
    | succ n => simp only [List.take_succ_cons, RepL]; exact ⟨y, _, rfl, r, ih n q⟩
theorem RepL.drop {l : List D} {xs : List V} : ∀ (n : Nat), RepL K M v l xs → RepL K M v (l.drop n) (xs.drop n) := by
  induction l generalizing xs with
  | nil => intro n h; simp only [RepL] at h; subst h; simp [RepL]
  | cons d ds ih =>
    intro n h
    cases n with
    | zero => simpa using h
    | succ n =>
      simp only [RepL] at h
      obtain ⟨y, ys, rfl, r, q⟩ := h
      simpa using ih n q
theorem RepL.app : ∀ {l m : List D} {xs ys : List V}, RepL K M v l xs → RepL K M v m ys → RepL K M v (l ++ m) (xs ++ ys)
  | [], _, _, _, h, g => by simp only [RepL] at h; subst h; exact g
  | _ :: _, _, _, _, h, g => by
    simp only [RepL] at h
    obtain ⟨y, ys, rfl, r, q⟩ := h
    simp only [List.cons_append, RepL]
    exact ⟨y, _, rfl, r, q.app g⟩
theorem RepWs.set : ∀ {l : List W} {xs : List V} {u : W} {y : V} (i : Nat), RepWs K M v l xs → RepW K M v u y → RepWs K M v (l.set i u) (xs.set i y)
  | [], _, _, _, _, h, _ => by cases h; simp [RepWs]
  | _ :: _, _, _, _, 0, ⟨y, ys, e, r, q⟩, g => by
    subst e
    exact ⟨_, _, rfl, g, q⟩
  | _ :: _, _, _, _, i + 1, ⟨y, ys, e, r, q⟩, g => by
    subst e
    exact ⟨_, _, rfl, r, RepWs.set i q g⟩
theorem RepWs.rev : ∀ {l : List W} {xs : List V}, RepWs K M v l xs → RepWs K M v l.reverse xs.reverse
  | [], _, h => by cases h; simp [RepWs]
  | _ :: _, _, ⟨y, ys, e, r, q⟩ => by
    subst e
    simp only [List.reverse_cons]
    exact q.rev.app (RepWs.one r)
theorem RepWF.look : ∀ {l : List (String × W)} {gs : List (Str × V)} {f : String} {u : W}, (∀ g, sx g = sx f → g = f) → RepWF K M v l gs → l.lookup f = some u → ∃ y, gs.lookup (sx f) = some y ∧ RepW K M v u y
  | [], _, _, _, _, _, h => by simp at h
  | (g, w) :: l, _, f, u, hi, ⟨y, ys, e, r, q⟩, h => by
    subst e
    by_cases hg : f = g
    · subst hg
      simp at h
      subst h
      exact ⟨y, by simp, r⟩
    · have hb : (f == g) = false := by simpa using hg
      have hs : (sx f == sx g) = false := by
        have : sx f ≠ sx g := fun e => hg (hi g e.symm).symm
        simpa using this
      simp only [List.lookup, hb] at h
      obtain ⟨z, h1, h2⟩ := RepWF.look hi q h
      exact ⟨z, by simp only [List.lookup, hs]; exact h1, h2⟩
end
end Ev
end

section
set_option linter.all false
set_option autoImplicit false
/-! EvS2: the operators. -/
namespace Ev
open PySem L2

theorem tx_inj {a b : List Char} (h : tx a = tx b) : a = b := by
  have h1 : (a.map Char.toNat) = (b.map Char.toNat) := by
    have := congrArg (fun z : Str => z.cps.toList) h
    simpa [tx] using this
  exact (List.map_inj_right fun x y e => Char.toNat_inj.mp e).mp h1
theorem tx_len (a : List Char) : (tx a).length = a.length := by
  show (tx a).cps.size = _
  simp [tx]
theorem sx_tx (s : String) : sx s = tx s.toList := by
  unfold sx Str.ofString tx
  rw [cpsOfBytes_string]
theorem sx_inj {a b : String} (h : sx a = sx b) : a = b := by
  rw [sx_tx, sx_tx] at h
  exact String.toList_inj.mp (tx_inj h)
theorem line_eq : LINE = sizeLine := by rw [sizeLine_eq]; rfl

/-! ### data as PyData -/
mutual
def toPy : D → PyData
  | .non => .none
  | .bl b => .bool b
  | .int i => .int i
  | .str s => .str (tx s)
  | .tup l => .tuple (toPyL l)
  | .obj _ _ => .none
  | .fn _ => .none
def toPyL : List D → List PyData
  | [] => []
  | d :: ds => toPy d :: toPyL ds
end
theorem tx_ok (s : List Char) : PyData.strOk (tx s) = true := by
  unfold PyData.strOk tx
  simp only [List.all_toArray, List.all_map, List.all_eq_true, Function.comp]
  intro c _
  have h := c.valid
  have : c.toNat < 0x110000 := by
    have hv : c.toNat = c.val.toNat := rfl
    simp only [UInt32.isValidChar, Nat.isValidChar] at h
    omega
  exact decide_eq_true this
mutual
theorem toPy_lay : ∀ (d : D) (n : Nat), d.dat n = true → (toPy d).canLay0 = true ∧ (toPy d).depth ≤ n
  | .non, _, _ => by simp [toPy, PyData.canLay0, PyData.depth]
  | .bl _, _, _ => by simp [toPy, PyData.canLay0, PyData.depth]
  | .int _, _, _ => by simp [toPy, PyData.canLay0, PyData.depth]
  | .str s, _, _ => by simp [toPy, PyData.canLay0, PyData.depth, tx_ok]
  | .tup l, 0, h => by simp [D.dat] at h
  | .tup l, n + 1, h => by
    have z := toPyL_lay l n (by simpa [D.dat] using h)
    simp only [toPy, PyData.canLay0, PyData.depth]
    exact ⟨z.1, Nat.succ_le_succ z.2⟩
  | .obj _ _, _, h => by simp [D.dat] at h
  | .fn _, _, h => by simp [D.dat] at h
theorem toPyL_lay : ∀ (l : List D) (n : Nat), D.datL l n = true → PyData.canLayAll0 (toPyL l) = true ∧ PyData.depthAll (toPyL l) ≤ n
  | [], _, _ => by simp [toPyL, PyData.canLayAll0, PyData.depthAll]
  | d :: ds, n, h => by
    simp only [D.datL, Bool.and_eq_true] at h
    have a := toPy_lay d n h.1
    have b := toPyL_lay ds n h.2
    simp only [toPyL, PyData.canLayAll0, PyData.depthAll, a.1, b.1, Bool.and_self, true_and]
    exact Nat.max_le.mpr ⟨a.2, b.2⟩
end
theorem toPy_shaped {d : D} (h : d.dat 64 = true) : SeqAt.shaped (toPy d) = true := by
  have z := toPy_lay d 64 h
  unfold SeqAt.shaped
  rw [z.1, Bool.true_and]
  exact decide_eq_true z.2
theorem toPyL_shaped {l : List D} (h : D.datL l 63 = true) : SeqAt.shaped (.list (toPyL l)) = true := by
  have z := toPyL_lay l 63 h
  unfold SeqAt.shaped
  rw [show PyData.canLay0 (.list (toPyL l)) = true from by simp only [PyData.canLay0]; exact z.1, Bool.true_and]
  exact decide_eq_true (by simp only [PyData.depth]; omega)
theorem toPyL_shapedT {l : List D} (h : D.datL l 63 = true) : SeqAt.shaped (.tuple (toPyL l)) = true := by
  have z := toPyL_lay l 63 h
  unfold SeqAt.shaped
  rw [show PyData.canLay0 (.tuple (toPyL l)) = true from by simp only [PyData.canLay0]; exact z.1, Bool.true_and]
  exact decide_eq_true (by simp only [PyData.depth]; omega)
theorem tx_beq (a b : List Char) : (tx a == tx b) = (a == b) := by
  by_cases h : a = b
  · subst h; simp
  · have : tx a ≠ tx b := fun e => h (tx_inj e)
    rw [beq_eq_false_iff_ne.mpr this, beq_eq_false_iff_ne.mpr h]
mutual
theorem eqv_py : ∀ (x y : D) (n : Nat), x.dat n = true → y.dat n = true → PyData.eqv (toPy x) (toPy y) = D.eqv x y
  | .non, y, n, _, hy => by cases y <;> simp_all [toPy, PyData.eqv, D.eqv, D.dat]
  | .bl a, y, n, _, hy => by cases y <;> simp_all [toPy, PyData.eqv, D.eqv, D.dat]
  | .int a, y, n, _, hy => by cases y <;> simp_all [toPy, PyData.eqv, D.eqv, D.dat]
  | .str a, y, n, _, hy => by cases y <;> simp_all [toPy, PyData.eqv, D.eqv, D.dat, tx_beq]
  | .tup l, y, 0, hx, _ => by simp [D.dat] at hx
  | .tup l, y, n + 1, hx, hy => by
    cases y with
    | tup m =>
      simp only [toPy, PyData.eqv, D.eqv]
      exact eqvL_py l m n (by simpa [D.dat] using hx) (by simpa [D.dat] using hy)
    | obj C fs => simp [D.dat] at hy
    | fn f => simp [D.dat] at hy
    | _ => simp [toPy, PyData.eqv, D.eqv]
  | .obj _ _, _, _, hx, _ => by simp [D.dat] at hx
  | .fn _, _, _, hx, _ => by simp [D.dat] at hx
theorem eqvL_py : ∀ (x y : List D) (n : Nat), D.datL x n = true → D.datL y n = true → PyData.eqvAll (toPyL x) (toPyL y) = D.eqvL x y
  | [], [], _, _, _ => by simp [toPyL, PyData.eqvAll, D.eqvL]
  | [], _ :: _, _, _, _ => by simp [toPyL, PyData.eqvAll, D.eqvL]
  | _ :: _, [], _, _, _ => by simp [toPyL, PyData.eqvAll, D.eqvL]
  | a :: as, b :: bs, n, hx, hy => by
    simp only [D.datL, Bool.and_eq_true] at hx hy
    simp only [toPyL, PyData.eqvAll, D.eqvL]
    rw [eqv_py a b n hx.1 hy.1, eqvL_py as bs n hx.2 hy.2]
end
section
variable {K : PySem.W.Frag} {M : Names} {v : Vw}
mutual
theorem Rep.dp : ∀ (d : D) (n : Nat) (y : V), d.dat n = true → Rep K M v d y → Dp K v.H y (toPy d)
  | .non, _, _, _, h => by simp only [Rep] at h; subst h; exact .non
  | .bl b, _, _, _, h => by simp only [Rep] at h; subst h; exact .bl b
  | .int i, _, _, _, h => by simp only [Rep] at h; subst h; exact .int i
  | .str s, _, _, _, h => by simp only [Rep] at h; subst h; exact .str _
  | .tup l, 0, _, hd, _ => by simp [D.dat] at hd
  | .tup l, n + 1, _, hd, h => by
    simp only [Rep] at h
    obtain ⟨a, xs, rfl, t, r⟩ := h
    simp only [toPy]
    exact .tup t.sq (RepL.dp l n xs (by simpa [D.dat] using hd) r)
  | .obj _ _, _, _, hd, _ => by simp [D.dat] at hd
  | .fn _, _, _, hd, _ => by simp [D.dat] at hd
theorem RepL.dp : ∀ (l : List D) (n : Nat) (ys : List V), D.datL l n = true → RepL K M v l ys → DpAll K v.H ys (toPyL l)
  | [], _, _, _, h => by simp only [RepL] at h; subst h; exact .nil
  | d :: ds, n, _, hd, h => by
    simp only [RepL] at h
    obtain ⟨y, ys, rfl, r, q⟩ := h
    simp only [D.datL, Bool.and_eq_true] at hd
    exact .cons (Rep.dp d n y hd.1 r) (RepL.dp ds n ys hd.2 q)
end

/-! ### what a run leaves -/
/-- an exception, behind -/
def RepX (K : PySem.W.Frag) (M : Names) (v : Vw) (x : Exn) (cls : Value) (d : Option Addr) : Prop :=
  cls = .ref (M.cls x.C) ∧ ((x.fs = [] ∧ d = none) ∨ ∃ dd gs, d = some dd ∧ v.H dd = some (.xd gs) ∧ ¬ v.live dd ∧ ∀ f u, x.fs.lookup f = some u → ∃ y, gs.lookup (sx f) = some y ∧ RepW K M v u y)
def Post (K : PySem.W.Frag) (M : Names) {α : Type} (v : Vw) (E : XK) (ok : α → Store → Vw → Prop) : R α → Prop
  | .ok a S' => ∀ v', Nx v v' → Sim K M v' S' → ok a S' v'
  | .err x S' => ∀ cls d v', Nx v v' → Sim K M v' S' → RepX K M v' x cls d → E cls d v'.H
  | .no => False
/-- .. a value, told to Q -/
abbrev PostQ (K : PySem.W.Frag) (M : Names) (v : Vw) (E : XK) (Q : VK) : R W → Prop := Post K M v E fun w _ v' => ∀ y, RepW K M v' w y → Q y v'.H
theorem Post.later {α : Type} {v v1 : Vw} {E : XK} {ok : α → Store → Vw → Prop} {r : R α} (x : Nx v v1) (h : Post K M v E ok r) : Post K M v1 E ok r := by
  cases r with
  | ok a S' => exact fun v' n s => h v' (x.trans n) s
  | err e S' => exact fun cls d v' n s => h cls d v' (x.trans n) s
  | no => exact h
theorem Post.imp {α : Type} {v : Vw} {E : XK} {ok ok' : α → Store → Vw → Prop} {r : R α} (h : Post K M v E ok r) (hi : ∀ a S' v', Nx v v' → Sim K M v' S' → ok a S' v' → ok' a S' v') : Post K M v E ok' r := by
  cases r with
  | ok a S' => exact fun v' n s => hi a S' v' n s (h v' n s)
  | err e S' => exact h
  | no => exact h
/-- a bind: the first part, wished for by what the second leaves -/
theorem Post.bind {α β : Type} {v : Vw} {E : XK} {ok : β → Store → Vw → Prop} {r : R α} {f : α → Store → R β} (h : Post K M v E ok (r.bind f)) : Post K M v E (fun a S' v' => Post K M v' E ok (f a S')) r := by
  cases r with
  | ok a S' => exact fun v' n s => Post.later n h
  | err e S' => exact h
  | no => exact h
theorem Post.now {α : Type} {v : Vw} {E : XK} {ok : α → Store → Vw → Prop} {a : α} {S : Store} (h : Post K M v E ok (.ok a S)) (s : Sim K M v S) : ok a S v := h v (Nx.refl v) s

/-! ### new and changed objects -/
def Vw.put (v : Vw) (a : Addr) (o : HO) : Vw := ⟨upd v.H a o, v.ρ, v.n⟩
def Vw.ext (v : Vw) (a : Addr) (o : HO) : Vw := ⟨upd v.H a o, fun m => if m = v.n then a else v.ρ m, v.n + 1⟩
/-- untracked by the store: a new object -/
theorem Nx.laid {v : Vw} {a : Addr} {o : HO} (h : v.H a = none) : Nx v (v.put a o) where
  le := Nat.le_refl _
  ρ := fun _ _ => rfl
  new := fun m h1 h2 => absurd h2 (Nat.not_lt.mpr h1)
  keep := fun b u e _ => by
    show upd v.H a o b = _
    rw [upd_ne (fun z => by rw [z, h] at e; cases e)]
    exact e
  dom := fun b e => by
    show upd v.H a o b ≠ none
    by_cases hb : b = a
    · rw [hb, upd_same]; exact fun z => nomatch z
    · rw [upd_ne hb]; exact e
theorem Nx.grown {v : Vw} {a : Addr} {o : HO} (h : v.H a = none) : Nx v (v.ext a o) where
  le := Nat.le_succ _
  ρ := fun m hm => if_neg (Nat.ne_of_lt hm)
  new := fun m h1 h2 => by
    have : m = v.n := Nat.le_antisymm (Nat.lt_succ_iff.mp h2) h1
    subst this
    show v.H (if v.n = v.n then a else _) = none
    rw [if_pos rfl]
    exact h
  keep := fun b u e _ => by
    show upd v.H a o b = _
    rw [upd_ne (fun z => by rw [z, h] at e; cases e)]
    exact e
  dom := fun b e => by
    show upd v.H a o b ≠ none
    by_cases hb : b = a
    · rw [hb, upd_same]; exact fun z => nomatch z
    · rw [upd_ne hb]; exact e
theorem Nx.write {v : Vw} {m : Nat} {o : HO} (h : m < v.n) : Nx v (v.put (v.ρ m) o) where
  le := Nat.le_refl _
  ρ := fun _ _ => rfl
  new := fun m h1 h2 => absurd h2 (Nat.not_lt.mpr h1)
  keep := fun b u e nl => by
    show upd v.H (v.ρ m) o b = _
    rw [upd_ne (fun z => nl ⟨m, h, z.symm⟩)]
    exact e
  dom := fun b e => by
    show upd v.H (v.ρ m) o b ≠ none
    by_cases hb : b = v.ρ m
    · rw [hb, upd_same]; exact fun z => nomatch z
    · rw [upd_ne hb]; exact e
theorem RepO.some {o : Ob} {a : Addr} (h : RepO K M v o a) : v.H a ≠ none := by
  cases o with
  | lst l => obtain ⟨xs, e, r⟩ := h; rw [e]; exact fun z => nomatch z
  | fro l => obtain ⟨o, xs, e, r⟩ := h; rw [e]; exact fun z => nomatch z
  | ins C fs => obtain ⟨dx, gs, e, r⟩ := h; rw [e]; exact fun z => nomatch z
  | dic kvs => obtain ⟨gs, e, r⟩ := h; rw [e]; exact fun z => nomatch z
  | exc C fs => rcases h with ⟨_, e⟩ | ⟨dx, gs, hs, e, r⟩ <;> (rw [e]; exact fun z => nomatch z)
theorem Sim.at {S : Store} (s : Sim K M v S) {m : Nat} (h : m < v.n) : ∃ o, S[m]? = some o ∧ RepO K M v o (v.ρ m) := by
  have hl : m < S.length := by rw [← s.n]; exact h
  exact ⟨S[m], by simp [hl], s.ob m _ (by simp [hl])⟩
theorem Sim.nl {S : Store} (s : Sim K M v S) {a : Addr} (h : v.H a = none) : ¬ v.live a := fun ⟨m, hm, e⟩ => by
  obtain ⟨o, _, r⟩ := s.at hm
  exact r.some (by rw [e]; exact h)
/-- a new object, not the store's -/
theorem Sim.laid {S : Store} (s : Sim K M v S) {a : Addr} {o : HO} (h : v.H a = none) : Sim K M (v.put a o) S where
  n := s.n
  inj := s.inj
  ob := fun i u e => by
    have r := s.ob i u e
    refine RepO.mono (Nx.laid h) ?_ r
    show upd v.H a o (v.ρ i) = _
    rw [upd_ne (fun z => r.some (by rw [z]; exact h))] <;> rfl
/-- .. the store's new one -/
theorem Sim.grown {S : Store} (s : Sim K M v S) {a : Addr} {o : HO} {u : Ob} (h : v.H a = none) (r : RepO K M (v.ext a o) u a) : Sim K M (v.ext a o) (S ++ [u]) where
  n := by simp [Vw.ext, s.n]
  inj := fun i j hi hj e => by
    have key : ∀ k, k < v.n → v.ρ k ≠ a := fun k hk z => s.nl h ⟨k, hk, z⟩
    have hi' : i < v.n + 1 := hi
    have hj' : j < v.n + 1 := hj
    have e' : (if i = v.n then a else v.ρ i) = (if j = v.n then a else v.ρ j) := e
    by_cases h1 : i = v.n
    · by_cases h2 : j = v.n
      · rw [h1, h2]
      · rw [if_pos h1, if_neg h2] at e'
        exact absurd e'.symm (key j (by omega))
    · by_cases h2 : j = v.n
      · rw [if_neg h1, if_pos h2] at e'
        exact absurd e' (key i (by omega))
      · rw [if_neg h1, if_neg h2] at e'
        exact s.inj i j (by omega) (by omega) e'
  ob := fun i w e => by
    by_cases hi : i < S.length
    · rw [List.getElem?_append_left hi] at e
      have r' := s.ob i w e
      have e1 : (v.ext a o).ρ i = v.ρ i := if_neg (by rw [s.n]; exact Nat.ne_of_lt hi)
      rw [e1]
      refine RepO.mono (Nx.grown h) ?_ r'
      show upd v.H a o (v.ρ i) = _
      rw [upd_ne (fun z => r'.some (by rw [z]; exact h))]
    · rw [List.getElem?_append_right (Nat.not_lt.mp hi)] at e
      have : i = S.length := by
        cases hk : i - S.length with
        | zero => omega
        | succ k => rw [hk] at e; simp at e
      subst this
      simp at e
      subst e
      have e1 : (v.ext a o).ρ S.length = a := if_pos s.n.symm
      rw [e1]
      exact r
/-- an object of the store is changed -/
theorem Sim.write {S : Store} (s : Sim K M v S) {m : Nat} {o : HO} {u : Ob} (h : m < v.n) (r : RepO K M (v.put (v.ρ m) o) u (v.ρ m)) : Sim K M (v.put (v.ρ m) o) (S.set m u) where
  n := by rw [List.length_set]; exact s.n
  inj := s.inj
  ob := fun i w e => by
    by_cases hi : i = m
    · subst hi
      rw [List.getElem?_set_self (by rw [← s.n]; exact h)] at e
      cases e
      exact r
    · rw [List.getElem?_set_ne (Ne.symm hi)] at e
      have r' := s.ob i w e
      refine RepO.mono (Nx.write h) ?_ r'
      show upd v.H (v.ρ m) o (v.ρ i) = _
      have hl : i < v.n := by
        rw [s.n]
        exact (List.getElem?_eq_some_iff.mp e).1
      rw [upd_ne (fun z => hi (s.inj i m hl h z))] <;> rfl
end
end Ev
end

section
set_option linter.all false
set_option autoImplicit false
/-! EvX7: an own exception, made. -/
namespace Ev
open PySem PySem.Spec PyProof.Rows L2
structure XAt2 (K : PySem.W.Frag) (mg : Str → Option Value) (prog : Program) (C f : Addr) (fs : List String) (d : XD) : Prop extends XAt K mg prog C f fs d where
  nd : fs.Nodup
  iC : PySem.W.findIn K (.ref C) "__init__" = some (some (.ref f))
  tI : PySem.W.typeIn K (.ref f) = some (.type "function")
theorem XAt.bindP {K : PySem.W.Frag} {mg : Str → Option Value} {prog : Program} {C f : Addr} {fs : List String} {d : XD} (h : XAt K mg prog C f fs d) {s : Shared} {us : List Value} (hu : us.length = d.P.length) : BindsTo s d.fd ⟨us, []⟩ (d.P.zip us) := by
  have nd : (d.P ++ []).Nodup := by
    rw [List.append_nil, ← h.sc.pre]
    exact h.sc.nd.sublist (List.take_sublist _ _)
  have := bind_all d.fd d.P [] us [] h.a1 h.a2 h.a3 (by rw [show d.fd.params.kwonlyargs = [] from h.a4]; rfl) h.a5 (by
    show seqItems? d.dV = _
    rw [h.a6]
    rfl) hu rfl nd
  simp only [List.append_nil, List.zip_nil_right] at this
  exact .of_eq this
theorem call_oex {X : L2.Cx} {pins : List (Addr × Obj)} {σ : L2.St} {H1 : Hp} {Q : XK} {C fI : Addr} {fs : List String} {d : XD} {us : List Value} {vs : List V} {s1 : Shared} (h : XAt2 X.K X.mg X.prog C fI fs d) (hr : Room 1 X.A) (I1 : Inv X pins σ H1 s1) (r1 : Vals vs us) (hl : vs.length = fs.length)
    (q : ∀ dx, H1 dx = none → Q (.ref C) (some dx) (upd H1 dx (.xd ((fs.map sx).zip vs).reverse))) : wpAny (model X.prog X.w) X.A (PySem.call (.ref C) us) (MkP X pins σ Q) X.xe s1 := by
  obtain ⟨nm, q', N, bs, bm, sn, sub, ab, col, dd, k0, k1, k2, k3, k5, hC, hbm⟩ := h.T.cls
  have F1 := x_fnok (prog := X.prog) (w := X.w) (base := X.base) (CX := L2.CX X.prog X.w) h.toXAt
  obtain ⟨hp, g, dr, tk, os⟩ := s1
  have hsz : hp.objs.size ≤ hp.objs.size + 1 := Nat.le_succ _
  have hn : H1 (hp.objs.size + 1) = none := I1.hok.fresh hsz
  have kk : ∀ b o, hp.get? b = some o → ((hp.push (PySem.W.kdv_tup us)).push (PySem.HandSPX.excO C hp.objs.size)).get? b = some o := fun b o e => Heap.get?_push_of_some _ (Heap.get?_push_of_some _ e)
  have hget : ((hp.push (PySem.W.kdv_tup us)).push (PySem.HandSPX.excO C hp.objs.size)).get? (hp.objs.size + 1) = some (PySem.HandSPX.excO C hp.objs.size) := by heap_get
  have I2 : Inv X pins σ (upd H1 (hp.objs.size + 1) (exo (hp.objs.size + 1) C none)) ⟨(hp.push (PySem.W.kdv_tup us)).push (PySem.HandSPX.excO C hp.objs.size), g, dr, tk, os⟩ :=
    I1.laid (t' := tk) (a := hp.objs.size + 1) (o := exo (hp.objs.size + 1) C none) (h' := (hp.push (PySem.W.kdv_tup us)).push (PySem.HandSPX.excO C hp.objs.size)) kk hsz (exo_ok hget)
  have r2 : Vals (V.ref (hp.objs.size + 1) :: vs) (Value.ref (hp.objs.size + 1) :: us) := .cons rfl r1
  have hP := h.lP
  have hpl : (Value.ref (hp.objs.size + 1) :: us).length = d.P.length := by rw [List.length_cons, ← r1.length, hl, hP]
  have hus : us.length ≤ sizeLine := by
    rw [← r1.length, sizeLine_eq]
    have := h.few
    omega
  have hsp : spX C fs (V.ref (hp.objs.size + 1) :: vs) (upd H1 (hp.objs.size + 1) (exo (hp.objs.size + 1) C none)) (fun v H2 => v = .non ∧ ∃ (d : Addr) (fs : List (Str × V)), H2 (hp.objs.size + 1) = some (exo (hp.objs.size + 1) C (some d)) ∧ H2 d = some (exd d fs) ∧ H1 d = none ∧ Q (.ref C) (some d) (upd (del H2 (hp.objs.size + 1)) d (.xd fs))) (fun _ _ _ => False) := by
    refine ⟨hp.objs.size + 1, vs, rfl, hl, upd_same, fun dx hdx hne => ⟨rfl, dx, _, ?_, upd_same, ?_, ?_⟩⟩
    · show upd _ dx _ _ = _
      rw [upd_ne (Ne.symm hne), upd_same]
    · rwa [upd_ne hne] at hdx
    · have hd1 : H1 dx = none := by rwa [upd_ne hne] at hdx
      have := q dx hd1
      refine Eq.mp (congrArg (Q (.ref C) (some dx)) ?_) this
      funext b
      by_cases hb : b = dx
      · rw [hb, upd_same, upd_same]
      · rw [upd_ne hb, upd_ne hb]
        by_cases hba : b = hp.objs.size + 1
        · rw [hba, L2.del_same, hn]
        · rw [L2.del_ne hba]
          unfold xHp
          rw [upd_ne hb, upd_ne hba, upd_ne hba]
  refine wpAny_call (PySem.HandSPX.call_own F.excBase_ValueError (fun Y => PySem.HandSPX.refsVE_contains Y bm hbm) (I1.kIn _ _ hC) (PySem.W.looks_findIn I1.kIn h.iC) (fun self => PySem.W.bind_fn I1.kIn self h.tI) hus
    (codeAny_mono (F1.run _ X.stack _ _ ⟨Value.ref (hp.objs.size + 1) :: us, []⟩ (Value.ref (hp.objs.size + 1) :: us) _ _ (fun _ _ _ => False) (hr.make C us []) (I2.env0.make C us []) (h.toXAt.bindP hpl) r2 hsp) fun r s' hq' => ?_))
  cases r with
  | error er =>
    obtain ⟨_, _, _, _, _, _, _, _, _, _, _, _, e⟩ := hq'
    exact False.elim e
  | ok fl =>
    cases fl with
    | ret u =>
      obtain ⟨v, H2, os2, bare2, un2, hok2, rv, ev, d, fs, ea, ed, hd1, q2⟩ := hq'
      subst ev
      obtain ⟨h2, g2, d2, t2, os'⟩ := s'
      exact ⟨rv, mk_end (raises_own h.T.exC h.T.tyC) I1 hsz kk un2 hok2 os2 bare2 ea ed hd1 q2⟩
    | next => exact False.elim hq'
    | brk => exact False.elim hq'
    | cont => exact False.elim hq'
theorem zip_sub' {β : Type} : ∀ (P : List Str) (us : List β), ((P.zip us).map (·.1)).Sublist P
  | [], _ => by simp
  | _ :: _, [] => by simp
  | p :: P, u :: us => by
    simp only [List.zip_cons_cons, List.map_cons]
    exact (zip_sub' P us).cons_cons p
theorem bind_look' {β : Type} {P : List Str} {us : List β} {i : Nat} {x : Str} {u : β} (nd : P.Nodup) (h1 : P[i]? = some x) (h2 : us[i]? = some u) : (P.zip us).reverse.lookup x = some u := by
  have hm : (x, u) ∈ (P.zip us).reverse := by
    rw [List.mem_reverse]
    refine List.mem_of_getElem? (i := i) ?_
    rw [List.getElem?_zip_eq_some]
    exact ⟨h1, h2⟩
  have hnd : ((P.zip us).reverse.map (·.1)).Nodup := by
    rw [List.map_reverse]
    exact ((List.reverse_perm _).nodup_iff).mpr (nd.sublist (zip_sub' P us))
  have key : ∀ l : List (Str × β), (l.map (·.1)).Nodup → (x, u) ∈ l → l.lookup x = some u := by
    intro l
    induction l with
    | nil => intro _ h; cases h
    | cons p l ih =>
      intro nd h
      obtain ⟨y, v⟩ := p
      simp only [List.map_cons, List.nodup_cons] at nd
      rcases List.mem_cons.mp h with h | h
      · cases h
        simp
      · have hne : x ≠ y := fun e => nd.1 (e ▸ List.mem_map_of_mem (f := (·.1)) h)
        have hb : (x == y) = false := by simpa using hne
        simp only [List.lookup, hb]
        exact ih nd.2 h
  exact key _ hnd hm
theorem zip_look {β : Type} : ∀ {l : List String} {ws : List β} {f : String} {u : β}, (l.zip ws).lookup f = some u → ∃ i : Nat, l[i]? = some f ∧ ws[i]? = some u
  | [], _, _, _, h => by simp at h
  | _ :: _, [], _, _, h => by simp at h
  | a :: l, w :: ws, f, u, h => by
    simp only [List.zip_cons_cons, List.lookup_cons] at h
    by_cases e : f = a
    · subst e
      simp at h
      exact ⟨0, by simp, by simp [h]⟩
    · rw [beq_eq_false_iff_ne.mpr e] at h
      obtain ⟨i, h1, h2⟩ := zip_look (show (l.zip ws).lookup f = some u from h)
      exact ⟨i + 1, by simpa using h1, by simpa using h2⟩
/-- .. as the evaluator tells it -/
theorem make_oex {K : PySem.W.Frag} {M : Names} {X' : L2.Cx} {C : String} {ns : List String} {ws : List W} {S : Store} {v : Vw} {vs : List V} {us : List Value} {pins : List (Addr × Obj)} {σ : L2.St} {s : Shared} {Q : XK} {fI : Addr} {d : XD} (hK : X'.K = K) (h : XAt2 K X'.mg X'.prog (M.cls C) fI ns d) (hr : Room 1 X'.A)
    (sim : Sim K M v S) (I : Inv X' pins σ v.H s) (r : RepWs K M v ws vs) (ru : Vals vs us) (hl : ns.length = ws.length)
    (q : ∀ cls d v', Nx v v' → Sim K M v' S → RepX K M v' ⟨C, ns.zip ws⟩ cls d → Q cls d v'.H) : wpAny (model X'.prog X'.w) X'.A (PySem.call (.ref (M.cls C)) us) (MkP X' pins σ Q) X'.xe s := by
  subst hK
  refine call_oex h hr I ru (by rw [r.len, hl]) fun dx hdx => ?_
  have nx : Nx v (v.put dx (.xd ((ns.map sx).zip vs).reverse)) := Nx.laid hdx
  refine q _ _ (v.put dx (.xd ((ns.map sx).zip vs).reverse)) nx (sim.laid hdx) ⟨rfl, .inr ⟨dx, _, rfl, upd_same, sim.nl hdx, fun f u hf => ?_⟩⟩
  obtain ⟨i, h1, h2⟩ := zip_look hf
  obtain ⟨y, hy, ry⟩ := r.get h2
  refine ⟨y, bind_look' (i := i) (h.nd.map _ fun a b ne e => ne (sx_inj e)) (by rw [List.getElem?_map, h1]; rfl) hy, ry.mono nx⟩
end Ev
end

section
set_option linter.all false
set_option autoImplicit false
/-! EvX8: own exceptions as objects: isinstance, attributes, the making. -/
namespace Ev
open PySem PySem.Spec PyProof.Rows L2
theorem CallR.orR {X : L2.Cx} {f : Value} {r1 r2 : List V → Hp → VK → Prop} (h1 : CallR X f r1) (h2 : CallR X f r2) : CallR X f (fun xs H Q => r1 xs H Q ∨ r2 xs H Q) := fun pins s σ H xs us Q I r h => by
  rcases h with h | h
  · exact h1 pins s σ H xs us Q I r h
  · exact h2 pins s σ H xs us Q I r h
/-- at a: an exception of the class at D, its dict -/
def ExcIn (X : L2.Cx) (H : Hp) (a D : Addr) : Prop := H a = some (exo a D none) ∨ (∃ dx hs, H a = some (exo a D (some dx)) ∧ H dx = some (exd dx hs)) ∨
  ∃ oe d, (a, oe) ∈ X.pn ∧ Zc (.ref D) d oe ∧ (∃ vs, oe.data = .fields vs) ∧ (d = none ∨ ∃ dd gs, d = some dd ∧ H dd = some (.xd gs))
theorem inst_of {h : Heap} {a D : Addr} {ox : Obj} {d : Option Addr} {od : Option Obj} (hg : h.get? a = some ox) (hz : Zc (.ref D) d ox) (hf : ∃ vs, ox.data = .fields vs) (hd : (d = none ∧ od = none) ∨ ∃ dd o, d = some dd ∧ od = some o ∧ h.get? dd = some o) : PySem.W.InstAt h a ox D od := by
  obtain ⟨vs, hv⟩ := hf
  rcases hd with ⟨rfl, rfl⟩ | ⟨dd, o, rfl, rfl, ho⟩
  · obtain ⟨oc, od, oda, osl⟩ := ox
    obtain ⟨h1, h2⟩ := hz
    dsimp only at h1 h2 hv
    subst h1 h2 hv
    exact ⟨hg, rfl, rfl, trivial⟩
  · exact ⟨hg, hz.1, by unfold PySem.W.notCls; rw [hv] <;> rfl, by rw [hz.2]; exact ho⟩
theorem ExcIn.inst {X : L2.Cx} {pins : List (Addr × Obj)} {σ : L2.St} {H : Hp} {s : Shared} {a D : Addr} (I : Inv X pins σ H s) (h : ExcIn X H a D) : ∃ ox od, PySem.W.InstAt s.heap a ox D od := by
  rcases h with h | ⟨dx, hs, h, hd⟩ | ⟨oe, d, hp, hz, hf, hd⟩
  · obtain ⟨t, ho⟩ := exo_at I.hok h
    exact ⟨_, none, inst_of ho ⟨rfl, rfl⟩ ⟨_, rfl⟩ (.inl ⟨rfl, rfl⟩)⟩
  · obtain ⟨t, ho⟩ := exo_at I.hok h
    obtain ⟨mA, ⟨o, es, ep, ho2, _⟩, _⟩ := exd_at I.hok hd
    exact ⟨_, some o, inst_of ho ⟨rfl, rfl⟩ ⟨_, rfl⟩ (.inr ⟨dx, o, rfl, rfl, ho2⟩)⟩
  · obtain ⟨ha, _⟩ := I.pin (a, oe) (List.mem_append_left _ hp)
    rcases hd with rfl | ⟨dd, gs, rfl, hd⟩
    · exact ⟨oe, none, inst_of ha hz hf (.inl ⟨rfl, rfl⟩)⟩
    · have hx : ObjOk X.prog X.w H s.heap dd (.xd gs) := I.hok dd _ hd
      obtain ⟨mA, ⟨o, es, ep, ho2, _⟩, _⟩ := hx
      exact ⟨oe, some o, inst_of ha hz hf (.inr ⟨dd, o, rfl, rfl, ho2⟩)⟩
def rIsX (X : L2.Cx) : List V → Hp → VK → Prop := fun xs H Q => ∃ (a D : Addr) (c : V) (u : Value) (b : Bool), xs = [.ref a, c] ∧ ClsV c u ∧ L2.ExcC X.K D ∧ PySem.W.kitOne X.K (.ref D) u = some b ∧ ExcIn X H a D ∧ Q (.bl b) H
theorem call_isX {X : L2.Cx} : CallR X (.builtin "isinstance") (rIsX X) := by
  intro pins s σ H xs us Q I r h
  obtain ⟨a, D, c, u, b, rfl, k, C, e, hi, q⟩ := h
  obtain ⟨u1, u2, rfl, r1, r2⟩ := vals2 r
  have e2 := k.eq r2
  subst e2
  obtain rfl : u1 = Value.ref a := r1
  obtain ⟨ox, od, J⟩ := hi.inst I
  have hcl : (PySem.W.clsIn X.K D).isSome = true := by
    obtain ⟨cd, hc, _⟩ := PySem.W.any_some C.hd
    rw [hc]; rfl
  exact PySem.W.kia_one (PySem.W.kitx_exc hcl C.hg C.hk C.hs C.ha C.hn C.ht C.hm) I.kIn J e (fun z => nomatch z) fun tk => ⟨.bl b, H, I.tok tk, rfl, q⟩
/-! ### attributes -/
theorem getx_ok {X : L2.Cx} {pins : List (Addr × Obj)} {σ : L2.St} {H : Hp} {s : Shared} {a C dx : Addr} {hs : List (Str × V)} {n : Str} {v : V} {R : Value → Shared → Prop} {ex : Bool} (I : Inv X pins σ H s) (T : XfC X.K C) (hno : PySem.W.findIn X.K (.ref C) n = some none)
    (ea : H a = some (exo a C (some dx))) (ed : H dx = some (exd dx hs)) (l : hs.lookup n = some v) (h : ∀ u s', Inv X pins σ H s' → RelV v u → R u s') : wpAny (model X.prog X.w) X.A (getAttr (.ref a) n ex) R X.xe s := by
  obtain ⟨t, ha⟩ := exo_at I.hok ea
  obtain ⟨mA, hns, hr⟩ := exd_at I.hok ed
  obtain ⟨od, ho, hl⟩ := lookIn_ns hns
  obtain ⟨u, hu, ru⟩ := RelO.some_of (v := v) (o := mA n) (by rw [← l]; exact hr n)
  have J : PySem.W.InstAt s.heap a _ C (some od) := inst_of ha ⟨rfl, rfl⟩ ⟨_, rfl⟩ (.inr ⟨dx, od, rfl, rfl, ho⟩)
  exact HandSPX.exc_get I.kIn J T.ga T.gg T.exC (PySem.W.findObj_own T.hdC hno rfl (by rw [hl, hu])) (handed_of ru) (h u _ (I.tok _) ru)
/-- o.f, o an instance or an own exception -/
def tAtX (K : PySem.W.Frag) (te : TE) (f : Str) : TE := fun σ H Q => te σ H fun x H1 => (∃ a C dx fs v, x = .ref a ∧ H1 a = some (.ins C dx fs) ∧ Cls K C ∧ NoAttr K C f ∧ fs.lookup f = some v ∧ Q v H1) ∨
  ∃ a C dx hs v, x = .ref a ∧ H1 a = some (exo a C (some dx)) ∧ H1 dx = some (exd dx hs) ∧ XfC K C ∧ PySem.W.findIn K (.ref C) f = some none ∧ hs.lookup f = some v ∧ Q v H1
theorem pe_atX {X : L2.Cx} {e : Expr} {te : TE} {f : Str} {pos : Pos} (he : PE X e te) (hb : attributeBase e f X.env (eval e X.env) = eval e X.env) : PE X (.Attribute e f pos) (tAtX X.K te f) := by
  refine ⟨fun pins s σ H Q I h => ?_⟩
  refine attr_of hb (thn (he.run pins s σ H _ I h) fun u s1 ⟨x, H1, I1, rx, hh⟩ => ?_)
  rcases hh with ⟨a, C, dx, fs, v, ex, ea, c, n, l, q⟩ | ⟨a, C, dx, hs, v, ex, ea, ed, c, n, l, q⟩
  · subst ex
    obtain rfl : u = Value.ref a := rx
    exact getattr_ok I1 ea c n l fun u' s2 I2 ru => ⟨v, H1, I2, ru, q⟩
  · subst ex
    obtain rfl : u = Value.ref a := rx
    exact getx_ok I1 c n ea ed l fun u' s2 I2 ru => ⟨v, H1, I2, ru, q⟩
/-- e.f of the exception at hand -/
theorem pe_xfP {X : L2.Cx} {a C : Addr} {oe : Obj} {cls : Value} {d : Option Addr} {e : Expr} {te : TE} {pos : Pos} {n : Str} (T : XfC X.K C) (hno : PySem.W.findIn X.K (.ref C) n = some none) (hp : (a, oe) ∈ X.pn)
    (hz : Zc cls d oe) (hf : ∃ vs, oe.data = .fields vs) (he : PE X e te) (hb : attributeBase e n X.env (eval e X.env) = eval e X.env := by rfl) :
    PE X (.Attribute e n pos) (tXf a cls d C n te) := by
  refine ⟨fun pins s σ H Q I h => ?_⟩
  refine attr_of hb (thn (he.run pins s σ H _ I h) fun u s1 hh => ?_)
  obtain ⟨x, H1, I1, rx, ex, ec, dd, fs, v, ed, ea, l, q⟩ := hh
  subst ex
  obtain rfl : u = Value.ref a := rx
  subst ec
  subst ed
  obtain ⟨ha, _⟩ := I1.pin (a, oe) (List.mem_append_left _ hp)
  have hx : ObjOk X.prog X.w H1 s1.heap dd (.xd fs) := I1.hok dd _ ea
  obtain ⟨mA, hns, hr⟩ := hx
  obtain ⟨od, ho, hl⟩ := lookIn_ns hns
  obtain ⟨u, hu, ru⟩ := RelO.some_of (v := v) (o := mA n) (by rw [← l]; exact hr n)
  have J : PySem.W.InstAt s1.heap a oe C (some od) := inst_of ha hz hf (.inr ⟨dd, od, rfl, rfl, ho⟩)
  exact HandSPX.exc_get I1.kIn J T.ga T.gg T.exC (PySem.W.findObj_own T.hdC hno rfl (by rw [hl, hu])) (handed_of ru) ⟨v, H1, I1.tok _, ru, q⟩
end Ev
end

section
set_option linter.all false
set_option autoImplicit false
/-! EvX9: own exceptions, made and kept. -/
namespace Ev
open PySem PySem.Spec PyProof.Rows L2
/-- a class without own __init__ -/
structure X0At (K : PySem.W.Frag) (C : Addr) : Prop where
  ex : PySem.W.excIn K C He.veBase "ValueError.__new__" = true
  exC : PySem.W.subIn K (.ref C) (.type "BaseException") = some true
  tyC : PySem.W.typeIn K (.ref C) = some (.type "type")
section
variable {X : L2.Cx} {pins : List (Addr × Obj)} {σ : L2.St} {H : Hp} {s : Shared} {C : Addr}
theorem call_x0M {Q : XK} (h : X0At X.K C) (I : Inv X pins σ H s) (q : Q (.ref C) none H) : wpAny (model X.prog X.w) X.A (PySem.call (.ref C) []) (MkP X pins σ Q) X.xe s := by
  obtain ⟨bm, N, nm, qn, bs, hdct, sn, sub, ab, col, dd, k0, k1, k2, k3, k5, mN, hC, hN, hni, T⟩ := exc_obj I.kIn h.ex
  refine wpAny_call_exc_subT F.excBase_ValueError T hC hN hni (fun h' e hm => ?_) (Nat.zero_le _)
  exact mk_of I hm (raises_own h.exC h.tyC) q (I.hok.gone hm.new)
theorem call_x0E {Q : VK} (h : X0At X.K C) (I : Inv X pins σ H s) (q : ∀ a, H a = none → Q (.ref a) (upd H a (exo a C none))) : wpAny (model X.prog X.w) X.A (PySem.call (.ref C) []) (EP X pins σ Q) X.xe s := by
  obtain ⟨bm, N, nm, qn, bs, hdct, sn, sub, ab, col, dd, k0, k1, k2, k3, k5, mN, hC, hN, hni, T⟩ := exc_obj I.kIn h.ex
  refine wpAny_call_exc_subT F.excBase_ValueError T hC hN hni (fun h' e hm => ?_) (Nat.zero_le _)
  obtain ⟨t, he, _, _⟩ := hm.there
  have hn : H e = none := I.hok.gone hm.new
  exact ⟨.ref e, _, I.laidN hm.keeps hm.new hn (exo_ok he), rfl, q e hn⟩
theorem call_oexE {Q : VK} {fI : Addr} {fs : List String} {d : XD} {us : List Value} {vs : List V} (h : XAt2 X.K X.mg X.prog C fI fs d) (hr : Room 1 X.A) (I1 : Inv X pins σ H s) (r1 : Vals vs us) (hl : vs.length = fs.length)
    (q : ∀ a dx, H a = none → H dx = none → dx ≠ a → Q (.ref a) (upd (upd H a (exo a C (some dx))) dx (exd dx ((fs.map sx).zip vs).reverse))) : wpAny (model X.prog X.w) X.A (PySem.call (.ref C) us) (EP X pins σ Q) X.xe s := by
  obtain ⟨nm, q', N, bs, bm, sn, sub, ab, col, dd, k0, k1, k2, k3, k5, hC, hbm⟩ := h.T.cls
  have F1 := x_fnok (prog := X.prog) (w := X.w) (base := X.base) (CX := L2.CX X.prog X.w) h.toXAt
  obtain ⟨hp, g, dr, tk, os⟩ := s
  have hsz : hp.objs.size ≤ hp.objs.size + 1 := Nat.le_succ _
  have hn : H (hp.objs.size + 1) = none := I1.hok.fresh hsz
  have kk : ∀ b o, hp.get? b = some o → ((hp.push (PySem.W.kdv_tup us)).push (PySem.HandSPX.excO C hp.objs.size)).get? b = some o := fun b o e => Heap.get?_push_of_some _ (Heap.get?_push_of_some _ e)
  have hget : ((hp.push (PySem.W.kdv_tup us)).push (PySem.HandSPX.excO C hp.objs.size)).get? (hp.objs.size + 1) = some (PySem.HandSPX.excO C hp.objs.size) := by heap_get
  have I2 : Inv X pins σ (upd H (hp.objs.size + 1) (exo (hp.objs.size + 1) C none)) ⟨(hp.push (PySem.W.kdv_tup us)).push (PySem.HandSPX.excO C hp.objs.size), g, dr, tk, os⟩ :=
    I1.laid (t' := tk) (a := hp.objs.size + 1) (o := exo (hp.objs.size + 1) C none) (h' := (hp.push (PySem.W.kdv_tup us)).push (PySem.HandSPX.excO C hp.objs.size)) kk hsz (exo_ok hget)
  have r2 : Vals (V.ref (hp.objs.size + 1) :: vs) (Value.ref (hp.objs.size + 1) :: us) := .cons rfl r1
  have hP := h.lP
  have hpl : (Value.ref (hp.objs.size + 1) :: us).length = d.P.length := by rw [List.length_cons, ← r1.length, hl, hP]
  have hus : us.length ≤ sizeLine := by
    rw [← r1.length, sizeLine_eq]
    have := h.few
    omega
  have hsp : spX C fs (V.ref (hp.objs.size + 1) :: vs) (upd H (hp.objs.size + 1) (exo (hp.objs.size + 1) C none)) (fun v H2 => v = .non ∧ Q (.ref (hp.objs.size + 1)) H2) (fun _ _ _ => False) := by
    refine ⟨hp.objs.size + 1, vs, rfl, hl, upd_same, fun dx hdx hne => ⟨rfl, ?_⟩⟩
    have hd1 : H dx = none := by rwa [upd_ne hne] at hdx
    have := q (hp.objs.size + 1) dx hn hd1 hne
    unfold xHp
    rw [upd_upd]
    exact this
  refine wpAny_call (PySem.HandSPX.call_own F.excBase_ValueError (fun Y => PySem.HandSPX.refsVE_contains Y bm hbm) (I1.kIn _ _ hC) (PySem.W.looks_findIn I1.kIn h.iC) (fun self => PySem.W.bind_fn I1.kIn self h.tI) hus
    (codeAny_mono (F1.run _ X.stack _ _ ⟨Value.ref (hp.objs.size + 1) :: us, []⟩ (Value.ref (hp.objs.size + 1) :: us) _ _ (fun _ _ _ => False) (hr.make C us []) (I2.env0.make C us []) (h.toXAt.bindP hpl) r2 hsp) fun r s' hq' => ?_))
  cases r with
  | error er =>
    obtain ⟨_, _, _, _, _, _, _, _, _, _, _, _, e⟩ := hq'
    exact False.elim e
  | ok fl =>
    cases fl with
    | ret u =>
      obtain ⟨v, H', I3, rv, ev, q3⟩ := I2.after hq'
      subst ev
      exact ⟨rv, ⟨V.ref (hp.objs.size + 1), H', I3, rfl, q3⟩⟩
    | next => exact False.elim hq'
    | brk => exact False.elim hq'
    | cont => exact False.elim hq'
end
theorem zip_lookS {β : Type} : ∀ {l : List Str} {ws : List β} {f : Str} {u : β}, (l.zip ws).lookup f = some u → ∃ i : Nat, l[i]? = some f ∧ ws[i]? = some u
  | [], _, _, _, h => by simp at h
  | _ :: _, [], _, _, h => by simp at h
  | a :: l, w :: ws, f, u, h => by
    simp only [List.zip_cons_cons, List.lookup_cons] at h
    by_cases e : f = a
    · subst e
      simp at h
      exact ⟨0, by simp, by simp [h]⟩
    · rw [beq_eq_false_iff_ne.mpr e] at h
      obtain ⟨i, h1, h2⟩ := zip_lookS (show (l.zip ws).lookup f = some u from h)
      exact ⟨i + 1, by simpa using h1, by simpa using h2⟩
theorem RepWF.zip {K : PySem.W.Frag} {M : Names} {v : Vw} : ∀ {ns : List String} {ws : List W} {vs : List V}, RepWs K M v ws vs → RepWF K M v (ns.zip ws) ((ns.map sx).zip vs)
  | [], _, _, _ => by simp [RepWF]
  | _ :: _, [], _, h => by cases h; simp [RepWF]
  | n :: ns, w :: ws, _, ⟨y, ys, e, r, q⟩ => by
    subst e
    exact ⟨y, _, rfl, r, RepWF.zip q⟩
/-- .. as the evaluator tells it -/
theorem mkx_ok {K : PySem.W.Frag} {M : Names} {X' : L2.Cx} {C : String} {ns : List String} {ws : List W} {S : Store} {v : Vw} {vs : List V} {us : List Value} {pins : List (Addr × Obj)} {σ : L2.St} {s : Shared} {Q : VK} {fI : Addr} {d : XD} (hK : X'.K = K) (h : XAt2 K X'.mg X'.prog (M.cls C) fI ns d) (hr : Room 1 X'.A)
    (sim : Sim K M v S) (I : Inv X' pins σ v.H s) (r : RepWs K M v ws vs) (ru : Vals vs us) (hl : ns.length = ws.length)
    (q : ∀ a v', Nx v v' → Sim K M v' (S ++ [.exc C (ns.zip ws)]) → RepW K M v' (.r S.length) (.ref a) → Q (.ref a) v'.H) : wpAny (model X'.prog X'.w) X'.A (PySem.call (.ref (M.cls C)) us) (EP X' pins σ Q) X'.xe s := by
  subst hK
  refine call_oexE h hr I ru (by rw [r.len, hl]) fun a dx ha hdx hne => ?_
  have n1 : Nx v (v.put dx (exd dx ((ns.map sx).zip vs).reverse)) := Nx.laid hdx
  have s1 := sim.laid (o := exd dx ((ns.map sx).zip vs).reverse) hdx
  have ha1 : (v.put dx (exd dx ((ns.map sx).zip vs).reverse)).H a = none := by
    show upd v.H dx _ a = none
    rw [upd_ne (Ne.symm hne)]; exact ha
  have n2 := Nx.grown (v := v.put dx (exd dx ((ns.map sx).zip vs).reverse)) (o := exo a (M.cls C) (some dx)) ha1
  have hd2 : ((v.put dx (exd dx ((ns.map sx).zip vs).reverse)).ext a (exo a (M.cls C) (some dx))).H dx = some (exd dx ((ns.map sx).zip vs).reverse) := by
    show upd _ a _ dx = _
    rw [upd_ne hne]
    exact upd_same
  have nl : ¬ ((v.put dx (exd dx ((ns.map sx).zip vs).reverse)).ext a (exo a (M.cls C) (some dx))).live dx := n2.notLive (show (v.put dx (exd dx ((ns.map sx).zip vs).reverse)).H dx = some _ from upd_same) (fun z => sim.nl hdx z)
  have s2 := s1.grown (o := exo a (M.cls C) (some dx)) (u := .exc C (ns.zip ws)) ha1 (.inr ⟨dx, (ns.map sx).zip vs, _, upd_same, hd2, nl, RepWF.zip (r.mono (n1.trans n2)), fun f y hf => by
    obtain ⟨i, h1, h2⟩ := zip_lookS hf
    exact bind_look' (i := i) (h.nd.map _ fun a b ne e => ne (sx_inj e)) h1 h2⟩)
  have hH : ((v.put dx (exd dx ((ns.map sx).zip vs).reverse)).ext a (exo a (M.cls C) (some dx))).H = upd (upd v.H a (exo a (M.cls C) (some dx))) dx (exd dx ((ns.map sx).zip vs).reverse) := by
    funext b
    show upd (upd v.H dx _) a _ b = _
    by_cases hb : b = a
    · subst hb
      rw [upd_same, upd_ne (Ne.symm hne), upd_same]
    · rw [upd_ne hb]
      by_cases hd : b = dx
      · subst hd
        rw [upd_same, upd_same]
      · rw [upd_ne hd, upd_ne hd, upd_ne hb]
  rw [← hH]
  refine q a _ (n1.trans n2) s2 ⟨?_, ?_⟩
  · show S.length < v.n + 1
    rw [sim.n]; exact Nat.lt_succ_self _
  · show V.ref a = V.ref (if S.length = v.n then a else _)
    rw [if_pos sim.n.symm]
theorem mkx0_ok {K : PySem.W.Frag} {M : Names} {X' : L2.Cx} {C : String} {S : Store} {v : Vw} {pins : List (Addr × Obj)} {σ : L2.St} {s : Shared} {Q : VK} (hK : X'.K = K) (h : X0At K (M.cls C))
    (sim : Sim K M v S) (I : Inv X' pins σ v.H s)
    (q : ∀ a v', Nx v v' → Sim K M v' (S ++ [.exc C []]) → RepW K M v' (.r S.length) (.ref a) → Q (.ref a) v'.H) : wpAny (model X'.prog X'.w) X'.A (PySem.call (.ref (M.cls C)) []) (EP X' pins σ Q) X'.xe s := by
  subst hK
  refine call_x0E h I fun a ha => ?_
  have n2 := Nx.grown (v := v) (o := exo a (M.cls C) none) ha
  have s2 := sim.grown (o := exo a (M.cls C) none) (u := .exc C []) ha (.inl ⟨rfl, upd_same⟩)
  refine q a (v.ext a (exo a (M.cls C) none)) n2 s2 ⟨?_, ?_⟩
  · show S.length < v.n + 1
    rw [sim.n]; exact Nat.lt_succ_self _
  · show V.ref a = V.ref (if S.length = v.n then a else _)
    rw [if_pos sim.n.symm]
theorem make0_ok {K : PySem.W.Frag} {M : Names} {X' : L2.Cx} {C : String} {S : Store} {v : Vw} {pins : List (Addr × Obj)} {σ : L2.St} {s : Shared} {Q : XK} (hK : X'.K = K) (h : X0At K (M.cls C))
    (sim : Sim K M v S) (I : Inv X' pins σ v.H s)
    (q : ∀ cls d v', Nx v v' → Sim K M v' S → RepX K M v' ⟨C, []⟩ cls d → Q cls d v'.H) : wpAny (model X'.prog X'.w) X'.A (PySem.call (.ref (M.cls C)) []) (MkP X' pins σ Q) X'.xe s := by
  subst hK
  exact call_x0M h I (q _ _ v (Nx.refl v) sim ⟨rfl, .inl ⟨rfl, rfl⟩⟩)
end Ev
end

section
set_option linter.all false
set_option autoImplicit false
/-! EvS3: the operators' rules. -/
namespace Ev
open PySem L2
section
variable {K : PySem.W.Frag} {M : Names} {v : Vw} {S : Store} {E : XK} {Q : VK} {X : L2.Cx}

theorem seq_rep {w : W} {x : V} {l : List W} (s : Sim K M v S) (h : seqOf S w = some l) (r : RepW K M v w x) : ∃ a xs, x = .ref a ∧ (SqL K v.H a xs ∨ SqT K v.H a xs) ∧ RepWs K M v l xs := by
  unfold seqOf at h
  split at h
  · cases h
    simp only [RepW, Rep] at r
    obtain ⟨a, xs, rfl, t, q⟩ := r
    exact ⟨a, xs, rfl, .inr t.sq, RepWs.ofL q⟩
  · rename_i n
    obtain ⟨hn, rfl⟩ := r
    split at h
    · rename_i l' e
      cases h
      obtain ⟨xs, e1, q⟩ := s.ob n _ e
      exact ⟨_, xs, rfl, .inl (SqL.of e1), q⟩
    · rename_i l' e
      cases h
      obtain ⟨o, xs, e1, q⟩ := s.ob n _ e
      exact ⟨_, xs, rfl, .inl (.inl (.inr ⟨o, e1⟩)), q⟩
    · cases h
  · cases h
theorem seq_lst {n : Nat} {x : V} {l : List W} (s : Sim K M v S) (h : seqOf S (.r n) = some l) (r : RepW K M v (.r n) x) : ∃ a xs, x = .ref a ∧ SqL K v.H a xs ∧ RepWs K M v l xs := by
  obtain ⟨hn, rfl⟩ := r
  unfold seqOf at h
  simp only at h
  split at h
  · rename_i l' e
    cases h
    obtain ⟨xs, e1, q⟩ := s.ob n _ e
    exact ⟨_, xs, rfl, SqL.of e1, q⟩
  · rename_i l' e
    cases h
    obtain ⟨o, xs, e1, q⟩ := s.ob n _ e
    exact ⟨_, xs, rfl, .inl (.inr ⟨o, e1⟩), q⟩
  · cases h
theorem dseq_lst {n : Nat} {x : V} {l : List D} (s : Sim K M v S) (h : dseq S (.r n) = some l) (r : RepW K M v (.r n) x) : ∃ a xs, x = .ref a ∧ SqL K v.H a xs ∧ RepL K M v l xs := by
  unfold dseq at h
  obtain ⟨m, h1, h2⟩ := Option.bind_eq_some_iff.mp h
  obtain ⟨a, xs, e, q, rr⟩ := seq_lst s h1 r
  exact ⟨a, xs, e, q, RepL.ofWs h2 rr⟩
theorem dseq_rep {w : W} {x : V} {l : List D} (s : Sim K M v S) (h : dseq S w = some l) (r : RepW K M v w x) : ∃ a xs, x = .ref a ∧ (SqL K v.H a xs ∨ SqT K v.H a xs) ∧ RepL K M v l xs := by
  unfold dseq at h
  obtain ⟨m, h1, h2⟩ := Option.bind_eq_some_iff.mp h
  obtain ⟨a, xs, e, q, rr⟩ := seq_rep s h1 r
  exact ⟨a, xs, e, q, RepL.ofWs h2 rr⟩
theorem post_d {d : D} (h : PostQ K M v E Q (.ok (.d d) S)) (s : Sim K M v S) {y : V} (r : Rep K M v d y) : Q y v.H := h.now s y r
/-- a new tuple -/
theorem post_tup {l : List D} {xs : List V} (h : PostQ K M v E Q (.ok (.d (.tup l)) S)) (s : Sim K M v S) (r : RepL K M v l xs) {p : Addr} (hp : v.H p = none) : Q (.ref p) (upd v.H p (.tup xs)) := by
  refine h (v.put p (.tup xs)) (Nx.laid hp) (s.laid hp) (.ref p) ?_
  simp only [RepW, Rep]
  refine ⟨p, xs, rfl, .inl ⟨upd_same, fun z => s.nl hp z⟩, RepL.mono (Nx.laid hp) _ _ r⟩
/-- a new list -/
theorem post_lst {l : List W} {xs : List V} (h : PostQ K M v E Q (.ok (.r S.length) (S ++ [.lst l]))) (s : Sim K M v S) (r : RepWs K M v l xs) {p : Addr} (hp : v.H p = none) : Q (.ref p) (upd v.H p (.lst xs)) := by
  have g : Nx v (v.ext p (.lst xs)) := Nx.grown hp
  have e : (v.ext p (.lst xs)).ρ v.n = p := if_pos rfl
  refine h (v.ext p (.lst xs)) g (s.grown hp ⟨xs, upd_same, r.mono g⟩) (.ref p) ⟨?_, ?_⟩
  · show S.length < v.n + 1
    rw [s.n]; exact Nat.lt_succ_self _
  · rw [← s.n, e]
theorem post_new {l : List W} {xs : List V} (h : PostQ K M v E Q (newL l S)) (s : Sim K M v S) (r : RepWs K M v l xs) : xs.length ≤ sizeLine ∧ ∀ p, v.H p = none → Q (.ref p) (upd v.H p (.lst xs)) := by
  unfold newL at h
  split at h
  · rename_i hl
    exact ⟨by rw [r.len, ← line_eq]; exact hl, fun p hp => post_lst h s r hp⟩
  · exact h.elim

/-- an own reading: any of the rules -/
def AnyOp (X : L2.Cx) (f : Value → Value → Sem Value) : R2 := fun x y H Q => ∃ r, OpR X f r ∧ r x y H Q
theorem anyOp {X : L2.Cx} {f : Value → Value → Sem Value} : OpR X f (AnyOp X f) := fun pins s σ H x y v u Q I rx ry ⟨r, hr, h⟩ => hr pins s σ H x y v u Q I rx ry h

theorem fmod_pos {i j : Int} (h : 0 < j) : i.fmod j = i % j := Int.fmod_eq_emod_of_nonneg i (Int.le_of_lt h)
theorem log_lt {j : Int} (h0 : 0 < j) (h : j < 2 ^ 9000) : CDivW 0 j := by
  refine wide_div h0 (b := 9000) ?_ (by decide) (Nat.le_refl _)
  have : (j.natAbs : Int) = j := Int.natAbs_of_nonneg (Int.le_of_lt h0)
  have h2 : (j.natAbs : Int) < ((2 ^ 9000 : Nat) : Int) := by rw [this]; push_cast; exact h
  exact Int.ofNat_lt.mp h2

theorem o2_bin (hK : X.K = K) {o : O2} {q : Operator} (hq : opB o q = true) {a b : W} {x y : V} (s : Sim K M v S) (ra : RepW K M v a x) (rb : RepW K M v b y) (h : PostQ K M v E Q (op2 o a b S)) : AnyOp X (binaryOp q) x y v.H Q := by
  subst hK
  cases o <;> cases q <;> first | (exact absurd hq Bool.false_ne_true) | skip
  · -- add
    simp only [op2] at h
    split at h
    · simp only [RepW, Rep] at ra rb
      subst ra rb
      exact ⟨_, op_add, _, _, rfl, rfl, post_d h s (by simp [Rep])⟩
    · simp only [RepW, Rep] at ra rb
      subst ra rb
      split at h
      · rename_i a b hl
        refine ⟨_, op_add_str, _, _, rfl, rfl, ?_, post_d h s ?_⟩
        · rw [tx_len, tx_len, ← line_eq]; exact hl
        · simp only [Rep]
          show V.str _ = V.str _
          congr 1
          show (⟨_⟩ : Str) = ⟨_⟩
          simp [tx]
      · exact h.elim
    · simp only [RepW, Rep] at ra rb
      obtain ⟨p, xs, rfl, t, rx⟩ := ra
      obtain ⟨p2, ys, rfl, t2, ry⟩ := rb
      split at h
      · rename_i l m hl
        refine ⟨_, op_catA, p, p2, xs, ys, rfl, rfl, t.sq, t2.sq, ?_, ?_, ?_, ?_⟩
        · rw [rx.len, ry.len, ← line_eq]; exact hl
        · intro e
          subst e
          have : l = [] := by
            have := rx.len
            simpa using this.symm
          subst this
          refine post_d h s ?_
          simp only [Rep, List.nil_append]
          exact ⟨p2, ys, rfl, t2, ry⟩
        · intro _ e
          subst e
          have : m = [] := by
            have := ry.len
            simpa using this.symm
          subst this
          refine post_d h s ?_
          simp only [Rep, List.append_nil]
          exact ⟨p, xs, rfl, t, rx⟩
        · intro _ _ r hr
          exact post_tup h s (rx.app ry) hr
      · exact h.elim
    · obtain ⟨hm, rfl⟩ := ra
      obtain ⟨hn, rfl⟩ := rb
      split at h
      · rename_i l m e1 e2
        obtain ⟨xs, f1, rx⟩ := s.ob _ _ e1
        obtain ⟨ys, f2, ry⟩ := s.ob _ _ e2
        obtain ⟨z, q⟩ := post_new h s (rx.app ry)
        rw [List.length_append] at z
        exact ⟨_, op_cat, _, _, xs, ys, rfl, rfl, f1, f2, z, q⟩
      · exact h.elim
    · exact h.elim
  · -- sub
    simp only [op2] at h
    split at h
    · simp only [RepW, Rep] at ra rb
      subst ra rb
      exact ⟨_, op_sub, _, _, rfl, rfl, post_d h s (by simp [Rep])⟩
    · exact h.elim
  · -- mul
    simp only [op2] at h
    split at h
    · simp only [RepW, Rep] at ra rb
      subst ra rb
      split at h
      · rename_i hc
        exact ⟨_, op_mul, _, _, rfl, rfl, hc, post_d h s (by simp [Rep])⟩
      · exact h.elim
    · exact h.elim
  · -- fdiv
    simp only [op2] at h
    split at h
    · simp only [RepW, Rep] at ra rb
      subst ra rb
      split at h
      · rename_i hc
        exact ⟨_, op_fdivW, _, _, rfl, rfl, log_lt hc.1 hc.2, post_d h s (by simp [Rep])⟩
      · exact h.elim
    · exact h.elim
  · -- mod
    simp only [op2] at h
    split at h
    · simp only [RepW, Rep] at ra rb
      subst ra rb
      split at h
      · rename_i i j hc
        exact ⟨_, op_modN, _, _, rfl, rfl, Int.ne_of_gt hc.1, post_d h s (by simp [Rep, fmod_pos hc.1])⟩
      · exact h.elim
    · exact h.elim
  · -- pow
    simp only [op2] at h
    split at h
    · simp only [RepW, Rep] at ra rb
      subst ra rb
      split at h
      · rename_i hc
        exact ⟨_, op_pow, _, _, rfl, rfl, hc, post_d h s (by simp [Rep])⟩
      · exact h.elim
    · exact h.elim

/-! ### == and in -/
theorem op_inT (hu : X.A.units + 65 < cLine) : OpR X (compareOp .In) (fun x y H Q => ∃ d ds, Dp X.K H x d ∧ Dp X.K H y (.tuple ds) ∧ SeqAt.shaped d = true ∧ SeqAt.shaped (.tuple ds) = true ∧ Q (.bl (ds.any fun z => PyData.eqv z d)) H) := by
  intro pins s σ H x y v u Q I rx ry h
  obtain ⟨d, ds, hd, he, sd, se, q⟩ := h
  obtain ⟨as, r1⟩ := Dp.reads I d x v hd rx
  obtain ⟨bs, r2⟩ := Dp.reads I (.tuple ds) y u he ry
  exact SeqAt.in_tuple_reads r2 r1 (SeqAt.canLay_of_shaped se) (SeqAt.canLay_of_shaped sd) (PyProof.Rows.room_in_shaped sd hu) ⟨.bl _, H, I, rfl, q⟩
theorem op_notInT (hu : X.A.units + 65 < cLine) : OpR X (compareOp .NotIn) (fun x y H Q => ∃ d ds, Dp X.K H x d ∧ Dp X.K H y (.tuple ds) ∧ SeqAt.shaped d = true ∧ SeqAt.shaped (.tuple ds) = true ∧ Q (.bl (!ds.any fun z => PyData.eqv z d)) H) := by
  intro pins s σ H x y v u Q I rx ry h
  obtain ⟨d, ds, hd, he, sd, se, q⟩ := h
  obtain ⟨as, r1⟩ := Dp.reads I d x v hd rx
  obtain ⟨bs, r2⟩ := Dp.reads I (.tuple ds) y u he ry
  exact SeqAt.notIn_tuple_reads r2 r1 (SeqAt.canLay_of_shaped se) (SeqAt.canLay_of_shaped sd) (PyProof.Rows.room_in_shaped sd hu) ⟨.bl _, H, I, rfl, q⟩
theorem any_py (x : D) (n : Nat) (hx : x.dat n = true) : ∀ (l : List D), D.datL l n = true → (toPyL l).any (fun z => PyData.eqv z (toPy x)) = l.any fun y => D.eqv y x
  | [], _ => rfl
  | d :: ds, h => by
    simp only [D.datL, Bool.and_eq_true] at h
    simp only [toPyL, List.any_cons]
    rw [eqv_py d x n h.1 hx, any_py x n hx ds h.2]
mutual
theorem dat_up : ∀ (d : D) (n : Nat), d.dat n = true → d.dat (n + 1) = true
  | .non, _, _ => by simp [D.dat]
  | .bl _, _, _ => by simp [D.dat]
  | .int _, _, _ => by simp [D.dat]
  | .str _, _, _ => by simp [D.dat]
  | .tup _, 0, h => by simp [D.dat] at h
  | .tup l, n + 1, h => by
    simp only [D.dat] at h ⊢
    exact datL_up l n h
  | .obj _ _, _, h => by simp [D.dat] at h
  | .fn _, _, h => by simp [D.dat] at h
theorem datL_up : ∀ (l : List D) (n : Nat), D.datL l n = true → D.datL l (n + 1) = true
  | [], _, _ => by simp [D.datL]
  | d :: ds, n, h => by
    simp only [D.datL, Bool.and_eq_true] at h ⊢
    exact ⟨dat_up d n h.1, datL_up ds n h.2⟩
end
theorem eqW_dp {a b : W} {x y : V} {c : Bool} (s : Sim K M v S) (ra : RepW K M v a x) (rb : RepW K M v b y) (h : eqW S a b = some c) : ∃ d e, Dp K v.H x d ∧ Dp K v.H y e ∧ SeqAt.shaped d = true ∧ SeqAt.shaped e = true ∧ PyData.eqv d e = c := by
  unfold eqW at h
  split at h
  · split at h
    · rename_i d e hd
      cases h
      simp only [Bool.and_eq_true] at hd
      exact ⟨_, _, Rep.dp d 64 x hd.1 ra, Rep.dp e 64 y hd.2 rb, toPy_shaped hd.1, toPy_shaped hd.2, eqv_py d e 64 hd.1 hd.2⟩
    · cases h
  · rename_i m n
    split at h
    · rename_i xs ys e1 e2
      split at h
      · rename_i hd
        cases h
        simp only [Bool.and_eq_true] at hd
        obtain ⟨p, vs, rfl, q1, r1⟩ := dseq_lst s e1 ra
        obtain ⟨p2, ws, rfl, q2, r2⟩ := dseq_lst s e2 rb
        exact ⟨.list (toPyL xs), .list (toPyL ys), .lst q1 (RepL.dp xs 63 vs hd.1 r1), .lst q2 (RepL.dp ys 63 ws hd.2 r2), toPyL_shaped hd.1, toPyL_shaped hd.2, by simp only [PyData.eqv]; exact eqvL_py xs ys 63 hd.1 hd.2⟩
      · cases h
    · cases h
  · cases h

/-- the container: a list or a tuple -/
theorem in_dp {b : W} {x y : V} {l : List D} {d : D} (s : Sim K M v S) (ra : RepW K M v (.d d) x) (rb : RepW K M v b y) (h : dseq S b = some l) (hd : d.dat 64 = true) (hl : D.datL l 63 = true) :
    Dp K v.H x (toPy d) ∧ SeqAt.shaped (toPy d) = true ∧ ((Dp K v.H y (.list (toPyL l)) ∧ SeqAt.shaped (.list (toPyL l)) = true) ∨ (Dp K v.H y (.tuple (toPyL l)) ∧ SeqAt.shaped (.tuple (toPyL l)) = true)) ∧ (toPyL l).any (fun z => PyData.eqv z (toPy d)) = l.any fun y => D.eqv y d := by
  obtain ⟨p, vs, rfl, q, r⟩ := dseq_rep s h rb
  refine ⟨Rep.dp d 64 x hd ra, toPy_shaped hd, ?_, any_py d 64 hd l (datL_up l 63 hl)⟩
  rcases q with q | q
  · exact .inl ⟨.lst q (RepL.dp l 63 vs hl r), toPyL_shaped hl⟩
  · exact .inr ⟨.tup q (RepL.dp l 63 vs hl r), toPyL_shapedT hl⟩
theorem in_reads (hK : X.K = K) (hu : X.A.units + 65 < cLine) {a b : W} {x y : V} {c : Bool} (s : Sim K M v S) (ra : RepW K M v a x) (rb : RepW K M v b y) (h : inW S a b = some c) :
    (Q (.bl c) v.H → AnyOp X (compareOp .In) x y v.H Q) ∧ (Q (.bl (!c)) v.H → AnyOp X (compareOp .NotIn) x y v.H Q) := by
  subst hK
  unfold inW at h
  split at h
  · split at h
    · rename_i y' x' c'
      cases h
      simp only [RepW, Rep] at ra rb
      subst ra rb
      have e : decide (c'.toNat ∈ (tx y').cps.toList) = y'.contains c' := by
        have : c'.toNat ∈ (tx y').cps.toList ↔ c' ∈ y' := by
          simp only [tx, List.mem_map]
          exact ⟨fun ⟨z, hz, ez⟩ => by rwa [← Char.toNat_inj.mp ez], fun hz => ⟨c', hz, rfl⟩⟩
        rw [Bool.eq_iff_iff]
        simp [this]
      exact ⟨fun q => ⟨_, op_in_sign, _, _, rfl, rfl, by rw [e]; exact q⟩, fun q => ⟨_, op_notIn_sign, _, _, rfl, rfl, by rw [e]; exact q⟩⟩
    · cases h
  · split at h
    · rename_i d b l e
      split at h
      · rename_i hd
        cases h
        simp only [Bool.and_eq_true] at hd
        obtain ⟨h1, h2, h3, h4⟩ := in_dp s ra rb e hd.1 hd.2
        rcases h3 with ⟨h5, h6⟩ | ⟨h5, h6⟩
        · exact ⟨fun q => ⟨_, op_inD hu, _, _, h1, h5, h2, h6, by rw [h4]; exact q⟩, fun q => ⟨_, op_notInD hu, _, _, h1, h5, h2, h6, by rw [h4]; exact q⟩⟩
        · exact ⟨fun q => ⟨_, op_inT hu, _, _, h1, h5, h2, h6, by rw [h4]; exact q⟩, fun q => ⟨_, op_notInT hu, _, _, h1, h5, h2, h6, by rw [h4]; exact q⟩⟩
      · cases h
    · cases h
  · cases h
theorem o2_cmp (hK : X.K = K) (hu : X.A.units + 65 < cLine) {o : O2} {q : CmpOp} (hq : cmB o q = true) {a b : W} {x y : V} (s : Sim K M v S) (ra : RepW K M v a x) (rb : RepW K M v b y) (h : PostQ K M v E Q (op2 o a b S)) : AnyOp X (compareOp q) x y v.H Q := by
  cases o <;> cases q <;> first | (exact absurd hq Bool.false_ne_true) | skip
  · simp only [op2] at h
    split at h
    · rename_i c e
      subst hK
      obtain ⟨d, f, h1, h2, h3, h4, h5⟩ := eqW_dp s ra rb e
      exact ⟨_, op_eqD (by omega), d, f, h1, h2, h3, h4, by rw [h5]; exact post_d h s (by simp [Rep])⟩
    · exact h.elim
  · simp only [op2] at h
    split at h
    · rename_i c e
      subst hK
      obtain ⟨d, f, h1, h2, h3, h4, h5⟩ := eqW_dp s ra rb e
      exact ⟨_, op_neD (by omega), d, f, h1, h2, h3, h4, by rw [h5]; exact post_d h s (by simp [Rep])⟩
    · exact h.elim
  · simp only [op2, cmpI] at h
    split at h
    · simp only [RepW, Rep] at ra rb
      subst ra rb
      exact ⟨_, op_lt, _, _, rfl, rfl, post_d h s (by simp [Rep])⟩
    · exact h.elim
  · simp only [op2, cmpI] at h
    split at h
    · simp only [RepW, Rep] at ra rb
      subst ra rb
      exact ⟨_, op_le, _, _, rfl, rfl, post_d h s (by simp [Rep])⟩
    · exact h.elim
  · simp only [op2, cmpI] at h
    split at h
    · simp only [RepW, Rep] at ra rb
      subst ra rb
      exact ⟨_, op_gt, _, _, rfl, rfl, post_d h s (by simp [Rep])⟩
    · exact h.elim
  · simp only [op2, cmpI] at h
    split at h
    · simp only [RepW, Rep] at ra rb
      subst ra rb
      exact ⟨_, op_ge, _, _, rfl, rfl, post_d h s (by simp [Rep])⟩
    · exact h.elim
  · simp only [op2] at h
    split at h
    · rename_i c e
      exact (in_reads hK hu s ra rb e).1 (post_d h s (by simp [Rep]))
    · exact h.elim
  · simp only [op2] at h
    split at h
    · rename_i c e
      exact (in_reads hK hu s ra rb e).2 (post_d h s (by simp [Rep]))
    · exact h.elim

/-! ### subscripts -/
def AnyIx (X : L2.Cx) : R2 := fun x y H Q => ∃ r, IxR X r ∧ r x y H Q
theorem anyIx : IxR X (AnyIx X) := fun va sl pins s σ H x y v u Q I rx ry ⟨r, hr, h⟩ hp => hr va sl pins s σ H x y v u Q I rx ry h hp
theorem ixN_eq (n : Nat) (i : Int) : L2.ixN n i = Ev.ixN n i := rfl
theorem o2_idx (hK : X.K = K) {a b : W} {x y : V} (s : Sim K M v S) (ra : RepW K M v a x) (rb : RepW K M v b y) (h : PostQ K M v E Q (op2 .idx a b S)) : AnyIx X x y v.H Q := by
  subst hK
  simp only [op2] at h
  split at h
  · simp only [RepW, Rep] at ra rb
    subst ra rb
    split at h
    · rename_i s' i hl
      split at h
      · rename_i c e
        refine ⟨_, ix_str, _, _, c.toNat, rfl, rfl, by rw [tx_len, ← line_eq]; exact hl, ?_, post_d h s ?_⟩
        · unfold atI
          have : (tx s').cps.toList.length = s'.length := by simp [tx]
          rw [this]
          show (Ev.ixN s'.length i).bind _ = _
          obtain ⟨j, h1, h2⟩ := Option.bind_eq_some_iff.mp e
          rw [h1]
          show (tx s').cps.toList[j]? = _
          simp only [tx, List.getElem?_map, h2, Option.map_some]
        · simp only [Rep]
          show V.str _ = V.str _
          congr 1
      · exact h.elim
    · exact h.elim
  · rename_i a i _
    simp only [RepW, Rep] at rb
    subst rb
    split at h
    · rename_i l e
      split at h
      · rename_i w e2
        obtain ⟨p, xs, rfl, q, r⟩ := seq_rep s e ra
        obtain ⟨j, h1, h2⟩ := Option.bind_eq_some_iff.mp e2
        obtain ⟨z, g1, g2⟩ := r.get h2
        have ha : atI xs i = some z := by
          unfold atI
          rw [r.len]
          show (Ev.ixN l.length i).bind _ = _
          rw [h1]
          exact g1
        have hq : Q z v.H := h.now s z g2
        rcases q with q | q
        · exact ⟨_, ix_list, p, xs, i, z, rfl, rfl, q, ha, hq⟩
        · exact ⟨_, ix_tup, p, xs, i, z, rfl, rfl, q, ha, hq⟩
      · exact h.elim
    · exact h.elim
  · exact h.elim

/-! ### slices -/
def AnySl (X : L2.Cx) : V → Option Int → Option Int → Hp → VK → Prop := fun x lo hi H Q => ∃ r, SlR X r ∧ r x lo hi H Q
theorem anySl : SlR X (AnySl X) := fun pins s σ H x v vl vu lo hi sl Q I rx hs pl pu ⟨r, hr, h⟩ => hr pins s σ H x v vl vu lo hi sl Q I rx hs pl pu h
theorem sIx_eq (n d : Nat) (o : Option Int) : HT.sIx n d o = Ev.sIx n d o := by cases o <;> rfl
theorem cut_len {α β : Type} {xs : List α} {ys : List β} (h : xs.length = ys.length) (lo hi : Option Int) : (cut xs lo hi).length = (cut ys lo hi).length := by
  unfold cut
  simp [h]
theorem cut_all {α : Type} {xs : List α} {lo hi : Option Int} (h1 : Ev.sIx xs.length 0 lo = 0) (h2 : Ev.sIx xs.length xs.length hi = xs.length) : cut xs lo hi = xs := by
  unfold cut
  rw [h1, h2]
  simp
theorem sl_reads (hK : X.K = K) {a : W} {x : V} {l h' : Option Int} (s : Sim K M v S) (ra : RepW K M v a x) (h : PostQ K M v E Q (slW a l h' S)) : AnySl X x l h' v.H Q := by
  subst hK
  simp only [slW] at h
  split at h
  · rename_i xs
    simp only [RepW, Rep] at ra
    obtain ⟨p, vs, rfl, t, r⟩ := ra
    refine ⟨_, sl_tupA, p, vs, rfl, t.sq, ?_, ?_⟩
    · rintro ⟨h1, h2⟩
      rw [sIx_eq] at h1 h2
      rw [r.len] at h1 h2
      rw [cut_all h1 h2] at h
      refine post_d h s ?_
      simp only [Rep]
      exact ⟨p, vs, rfl, t, r⟩
    · intro _ q hq
      refine post_tup h s ?_ hq
      unfold cutV cut
      rw [sIx_eq, sIx_eq, r.len]
      exact (r.drop _).take _
  · rename_i xs
    simp only [RepW, Rep] at ra
    subst ra
    split at h
    · rename_i hz
      refine ⟨_, sl_str, _, rfl, by rw [tx_len, ← line_eq]; exact hz, post_d h s ?_⟩
      simp only [Rep]
      show V.str _ = V.str _
      congr 1
      unfold cutS tx cut
      rw [sIx_eq, sIx_eq]
      have : (tx xs).length = xs.length := tx_len xs
      unfold tx at this
      rw [this]
      simp only [List.map_take, List.map_drop]
    · exact h.elim
  · rename_i n
    split at h
    · rename_i xs e
      obtain ⟨p, vs, rfl, q, r⟩ := seq_lst s e ra
      refine ⟨_, sl_list, p, vs, rfl, q, fun z hz => post_lst h s ?_ hz⟩
      unfold cutV cut
      rw [sIx_eq, sIx_eq, r.len]
      exact (r.drop _).take _
    · exact h.elim
  · exact h.elim

/-! ### calls of one value -/
def AnyCall (X : L2.Cx) (f : Value) : List V → Hp → VK → Prop := fun xs H Q => ∃ r, CallR X f r ∧ r xs H Q
theorem anyCall {f : Value} : CallR X f (AnyCall X f) := fun pins s σ H xs us Q I r ⟨q, hq, h⟩ => hq pins s σ H xs us Q I r h
/-- the builtin behind a name -/
def bltV : O1 → Value
  | .int_ => .type "int"
  | .str_ => .type "str"
  | .tuple_ => .type "tuple"
  | .list_ => .type "list"
  | .bool_ => .type "bool"
  | .len => .builtin "len"
  | .abs_ => .builtin "abs"
  | .sum_ => .builtin "sum"
  | .all_ => .builtin "all"
  | .any_ => .builtin "any"
  | .min_ => .builtin "min"
  | .max_ => .builtin "max"
  | _ => .none
theorem toInt_rep : ∀ {l : List D} {ns : List Int} {xs : List V}, toInt l = some ns → RepL K M v l xs → xs = ns.map V.int
  | [], _, _, h, r => by cases h; simp only [RepL] at r; exact r
  | .int i :: l, _, _, h, r => by
    simp only [toInt, Option.map_eq_some_iff] at h
    obtain ⟨ns, h1, rfl⟩ := h
    simp only [RepL, Rep] at r
    obtain ⟨y, ys, rfl, rfl, q⟩ := r
    rw [toInt_rep h1 q]; rfl
  | .non :: _, _, _, h, _ => by simp [toInt] at h
  | .bl _ :: _, _, _, h, _ => by simp [toInt] at h
  | .str _ :: _, _, _, h, _ => by simp [toInt] at h
  | .tup _ :: _, _, _, h, _ => by simp [toInt] at h
  | .obj _ _ :: _, _, _, h, _ => by simp [toInt] at h
  | .fn _ :: _, _, _, h, _ => by simp [toInt] at h
theorem toBl_rep : ∀ {l : List D} {ns : List Bool} {xs : List V}, toBl l = some ns → RepL K M v l xs → xs = ns.map V.bl
  | [], _, _, h, r => by cases h; simp only [RepL] at r; exact r
  | .bl i :: l, _, _, h, r => by
    simp only [toBl, Option.map_eq_some_iff] at h
    obtain ⟨ns, h1, rfl⟩ := h
    simp only [RepL, Rep] at r
    obtain ⟨y, ys, rfl, rfl, q⟩ := r
    rw [toBl_rep h1 q]; rfl
  | .non :: _, _, _, h, _ => by simp [toBl] at h
  | .int _ :: _, _, _, h, _ => by simp [toBl] at h
  | .str _ :: _, _, _, h, _ => by simp [toBl] at h
  | .tup _ :: _, _, _, h, _ => by simp [toBl] at h
  | .obj _ _ :: _, _, _, h, _ => by simp [toBl] at h
  | .fn _ :: _, _, _, h, _ => by simp [toBl] at h
theorem toStr_rep : ∀ {l : List D} {ns : List (List Char)} {xs : List V}, toStr l = some ns → RepL K M v l xs → xs = (ns.map tx).map V.str
  | [], _, _, h, r => by cases h; simp only [RepL] at r; exact r
  | .str i :: l, _, _, h, r => by
    simp only [toStr, Option.map_eq_some_iff] at h
    obtain ⟨ns, h1, rfl⟩ := h
    simp only [RepL, Rep] at r
    obtain ⟨y, ys, rfl, rfl, q⟩ := r
    rw [toStr_rep h1 q]; rfl
  | .non :: _, _, _, h, _ => by simp [toStr] at h
  | .int _ :: _, _, _, h, _ => by simp [toStr] at h
  | .bl _ :: _, _, _, h, _ => by simp [toStr] at h
  | .tup _ :: _, _, _, h, _ => by simp [toStr] at h
  | .obj _ _ :: _, _, _, h, _ => by simp [toStr] at h
  | .fn _ :: _, _, _, h, _ => by simp [toStr] at h
end
end Ev
end

section
set_option linter.all false
set_option autoImplicit false
/-! EvS4: calls of built-ins. -/
namespace PySem
section
open PyProof.Rows
variable {prog : Program} {w : World} {A : Around} {E : Value → Shared → Prop} {s : Shared} {l : Addr} {its : List Value} {ns : List Int} {Q : Value → Shared → Prop}
theorem ev_sum_tup (hh : A.handled = none) (hl : s.heap.IsTuple l its.toArray) (hi : IntsAre its ns)
    (h : ∀ h' tk t', (∀ b o, s.heap.get? b = some o → h'.get? b = some o) → Q (.int ns.sum t') { s with heap := h', toks := tk }) : wpAny (model prog w) A (call (.builtin "sum") [.ref l]) Q E s := by
  obtain ⟨xs, e⟩ := hi.allInts.items
  have hn : numsOf (intItems xs).toList = ns := by rw [← e]; exact hi.numsOf
  rw [nums_intItems] at hn
  rw [e] at hl
  have hlt : l < s.heap.objs.size := by obtain ⟨_, e, _⟩ := hl; exact Heap.lt_size e
  have hne : l ≠ s.heap.objs.size := Nat.ne_of_lt hlt
  refine call_sum_walkG (wpAny_pyIter_tuple hl ?_)
  refine ⟨_, _, _, _, _, _, numAt xs, rfl, Walks.tuple (A := A.in1) hh s.heap.objs.size l hne (intItems xs), ⟨⟨_, Heap.get?_push_size _ rfl, rfl, rfl⟩, hl.at fun o e => Heap.get?_push_of_some _ e⟩, fun b hb => ?_, (fun _ _ => intItems_at), fun h' tk t' hk => ?_⟩
  · show b < (s.heap.push _).objs.size
    rw [Heap.size_push]
    rcases List.mem_cons.mp hb with rfl | hb
    · exact Nat.lt_succ_self _
    · rw [List.mem_singleton.mp hb]; exact Nat.lt_succ_of_lt hlt
  · have := h h' tk t' fun b o e => hk b o (by
      intro z
      rw [List.mem_singleton.mp z] at e
      exact absurd (Heap.lt_size e) (Nat.lt_irrefl _)) (Heap.get?_push_of_some _ e)
    rw [preSum_eq, List.take_of_length_le (by simp [intItems]), hn]; exact this
end
end PySem
namespace Ev
open PySem L2
section
variable {K : PySem.W.Frag} {M : Names} {v : Vw} {S : Store} {E : XK} {Q : VK} {X : L2.Cx}
theorem call_sumT (hc : X.calm = true) : CallR X (.builtin "sum") (fun vs H Q => ∃ (a : Addr) (ns : List Int), vs = [V.ref a] ∧ SqT X.K H a (ns.map V.int) ∧ Q (.int ns.sum) H) := by
  intro pins s σ H vs us Q I r h
  obtain ⟨a, ns, rfl, hs, q⟩ := h
  obtain ⟨its, rv, hl, _⟩ := I.tuple hs
  rw [Vals.ref1 r]
  exact ev_sum_tup (I.ok.hd hc) hl rv.ints fun h' tk t' hk => ⟨.int _, H, I.kept hk, ⟨_, rfl⟩, q⟩
theorem minI_mem : ∀ {l : List Int} {m : Int}, minI l = some m → m ∈ l ∧ ∀ y ∈ l, m ≤ y := by
  have key : ∀ (r : List Int) (x : Int), (r.foldl (fun a b => if b < a then b else a) x) ∈ x :: r ∧ ∀ y ∈ x :: r, r.foldl (fun a b => if b < a then b else a) x ≤ y := by
    intro r
    induction r with
    | nil => intro x; simp
    | cons z r ih =>
      intro x
      simp only [List.foldl_cons]
      obtain ⟨h1, h2⟩ := ih (if z < x then z else x)
      refine ⟨?_, fun y hy => ?_⟩
      · rcases List.mem_cons.mp h1 with e | e
        · rw [e]; split <;> simp
        · exact List.mem_cons_of_mem _ (List.mem_cons_of_mem _ e)
      · have h3 := h2 (if z < x then z else x) List.mem_cons_self
        have h4 : (if z < x then z else x) ≤ x ∧ (if z < x then z else x) ≤ z := by split <;> omega
        rcases List.mem_cons.mp hy with e | e
        · subst e; exact Int.le_trans h3 h4.1
        · rcases List.mem_cons.mp e with e | e
          · subst e; exact Int.le_trans h3 h4.2
          · exact h2 y (List.mem_cons_of_mem _ e)
  intro l m h
  cases l with
  | nil => cases h
  | cons x r => cases h; exact key r x
theorem maxI_mem : ∀ {l : List Int} {m : Int}, maxI l = some m → m ∈ l ∧ ∀ y ∈ l, y ≤ m := by
  have key : ∀ (r : List Int) (x : Int), (r.foldl (fun a b => if a < b then b else a) x) ∈ x :: r ∧ ∀ y ∈ x :: r, y ≤ r.foldl (fun a b => if a < b then b else a) x := by
    intro r
    induction r with
    | nil => intro x; simp
    | cons z r ih =>
      intro x
      simp only [List.foldl_cons]
      obtain ⟨h1, h2⟩ := ih (if x < z then z else x)
      refine ⟨?_, fun y hy => ?_⟩
      · rcases List.mem_cons.mp h1 with e | e
        · rw [e]; split <;> simp
        · exact List.mem_cons_of_mem _ (List.mem_cons_of_mem _ e)
      · have h3 := h2 (if x < z then z else x) List.mem_cons_self
        have h4 : x ≤ (if x < z then z else x) ∧ z ≤ (if x < z then z else x) := by split <;> omega
        rcases List.mem_cons.mp hy with e | e
        · subst e; exact Int.le_trans h4.1 h3
        · rcases List.mem_cons.mp e with e | e
          · subst e; exact Int.le_trans h4.2 h3
          · exact h2 y (List.mem_cons_of_mem _ e)
  intro l m h
  cases l with
  | nil => cases h
  | cons x r => cases h; exact key r x
theorem str_digs (i : Int) : Str.ofString (toString i) = tx (digs i) := sx_tx _

theorem toD_map : ∀ m : List D, toD (m.map W.d) = some m
  | [] => rfl
  | d :: ds => by simp [toD, toD_map ds]
/-- data in a row: a tuple, or a list of the store -/
theorem dseq_cases {a : W} {x : V} {l : List D} (s : Sim K M v S) (h : dseq S a = some l) (r : RepW K M v a x) :
    (a = .d (.tup l) ∧ ∃ p xs, x = .ref p ∧ TupAt K v p xs ∧ RepL K M v l xs) ∨ ∃ n, a = .r n ∧ ∃ p xs, x = .ref p ∧ SqL K v.H p xs ∧ RepL K M v l xs := by
  cases a with
  | d d =>
    cases d with
    | tup m =>
      have e1 : toD (m.map W.d) = some l := h
      rw [toD_map m] at e1
      cases e1
      simp only [RepW, Rep] at r
      exact .inl ⟨rfl, r⟩
    | _ => cases h
  | r n => exact .inr ⟨n, rfl, dseq_lst s h r⟩
/-- the built-ins of one value -/
theorem o1_call (hK : X.K = K) (hc : X.calm = true) {o : O1} {n : String} (ho : o1N o = some n) {a : W} {x : V} (s : Sim K M v S) (ra : RepW K M v a x) (h : PostQ K M v E Q (op1 o a S)) : AnyCall X (bltV o) [x] v.H Q := by
  subst hK
  cases o <;> first | (cases ho; done) | skip
  · -- len
    simp only [op1] at h
    split at h
    · simp only [RepW, Rep] at ra
      subst ra
      split at h
      · rename_i hl
        refine ⟨_, call_len_str, _, rfl, by rw [tx_len, ← line_eq]; exact hl, ?_⟩
        rw [tx_len]
        exact post_d h s (by simp [Rep])
      · exact h.elim
    · split at h
      · rename_i l e
        obtain ⟨p, xs, rfl, q, r⟩ := seq_rep s e ra
        refine ⟨_, call_len_seq, p, xs, rfl, q, ?_⟩
        rw [r.len]
        exact post_d h s (by simp [Rep])
      · exact h.elim
  · -- int
    simp only [op1] at h
    split at h
    · simp only [RepW, Rep] at ra
      subst ra
      exact ⟨_, call_int1, .inl ⟨_, rfl, post_d h s (by simp [Rep])⟩⟩
    · simp only [RepW, Rep] at ra
      subst ra
      exact ⟨_, call_int1, .inr ⟨_, rfl, post_d h s (by simp [Rep])⟩⟩
    · exact h.elim
  · -- abs
    simp only [op1] at h
    split at h
    · simp only [RepW, Rep] at ra
      subst ra
      exact ⟨_, call_abs, _, rfl, post_d h s (by simp [Rep])⟩
    · exact h.elim
  · -- str
    simp only [op1] at h
    split at h
    · simp only [RepW, Rep] at ra
      subst ra
      split at h
      · rename_i hl
        exact ⟨_, call_str_int, _, rfl, hl, post_d h s (by simp only [Rep]; rw [str_digs])⟩
      · exact h.elim
    · simp only [RepW, Rep] at ra
      subst ra
      exact ⟨_, SkE.call_str_str, _, rfl, post_d h s (by simp [Rep])⟩
    · exact h.elim
  · -- tuple
    simp only [op1] at h
    split at h
    · rename_i l e
      rcases dseq_cases s e ra with ⟨rfl, t⟩ | ⟨n, rfl, p, xs, rfl, q, r⟩
      · obtain ⟨p, xs, rfl, t, r⟩ := t
        exact ⟨_, call_tuple_of, p, xs, rfl, .inr ⟨t.sq, post_d h s (by simp only [Rep]; exact ⟨p, xs, rfl, t, r⟩)⟩⟩
      · exact ⟨_, call_tuple_of, p, xs, rfl, .inl ⟨q, fun z hz => post_tup h s r hz⟩⟩
    · exact h.elim
  · -- list
    simp only [op1] at h
    split at h
    · rename_i l e
      obtain ⟨p, xs, rfl, q, r⟩ := seq_rep s e ra
      exact ⟨_, call_list_of, p, xs, rfl, q, (post_new h s r).2⟩
    · exact h.elim
  · -- sum
    simp only [op1] at h
    split at h
    · rename_i l e
      obtain ⟨m, e1, e2⟩ := Option.bind_eq_some_iff.mp e
      obtain ⟨p, xs, rfl, q, r⟩ := dseq_rep s e1 ra
      have := toInt_rep e2 r
      subst this
      rcases q with q | q
      · exact ⟨_, cr_sum hc, p, l, rfl, q, post_d h s (by simp [Rep])⟩
      · exact ⟨_, call_sumT hc, p, l, rfl, q, post_d h s (by simp [Rep])⟩
    · exact h.elim
  · -- all
    simp only [op1] at h
    split at h
    · rename_i l e
      obtain ⟨m, e1, e2⟩ := Option.bind_eq_some_iff.mp e
      obtain ⟨p, xs, rfl, q, r⟩ := dseq_lst s e1 ra
      · have := toBl_rep e2 r
        subst this
        exact ⟨_, cr_all hc, p, l, rfl, q, post_d h s (by simp [Rep])⟩
    · exact h.elim
  · -- any
    simp only [op1] at h
    split at h
    · rename_i l e
      obtain ⟨m, e1, e2⟩ := Option.bind_eq_some_iff.mp e
      obtain ⟨p, xs, rfl, q, r⟩ := dseq_lst s e1 ra
      · have := toBl_rep e2 r
        subst this
        exact ⟨_, cr_any hc, p, l, rfl, q, post_d h s (by simp [Rep])⟩
    · exact h.elim
  · -- min
    simp only [op1] at h
    split at h
    · rename_i i e
      obtain ⟨l, e, e3⟩ := Option.bind_eq_some_iff.mp e
      obtain ⟨m, e1, e2⟩ := Option.bind_eq_some_iff.mp e
      obtain ⟨p, xs, rfl, q, r⟩ := dseq_lst s e1 ra
      · have := toInt_rep e2 r
        subst this
        obtain ⟨h1, h2⟩ := minI_mem e3
        refine ⟨_, cr_min hc, p, l, rfl, q, List.length_pos_of_mem h1, fun k hk hy => ?_⟩
        have : k = i := Int.le_antisymm (hy i h1) (h2 k hk)
        subst this
        exact post_d h s (by simp [Rep])
    · exact h.elim
  · -- max
    simp only [op1] at h
    split at h
    · rename_i i e
      obtain ⟨l, e, e3⟩ := Option.bind_eq_some_iff.mp e
      obtain ⟨m, e1, e2⟩ := Option.bind_eq_some_iff.mp e
      obtain ⟨p, xs, rfl, q, r⟩ := dseq_lst s e1 ra
      · have := toInt_rep e2 r
        subst this
        obtain ⟨h1, h2⟩ := maxI_mem e3
        refine ⟨_, cr_max hc, p, l, rfl, q, List.length_pos_of_mem h1, fun k hk hy => ?_⟩
        have : k = i := Int.le_antisymm (h2 k hk) (hy i h1)
        subst this
        exact post_d h s (by simp [Rep])
    · exact h.elim
  · -- bool
    simp only [op1] at h
    split at h
    · simp only [RepW, Rep] at ra
      subst ra
      exact ⟨_, call_bool1, .inr ⟨_, rfl, post_d h s (by simp [Rep])⟩⟩
    · exact h.elim

end
end Ev
end

section
set_option linter.all false
set_option autoImplicit false
/-! EvS5: expressions: names, constants, operators, calls. -/
namespace Ev
open PySem L2

def WEx (X : L2.Cx) (e : Expr) (σ : St) (H : Hp) (Q : VK) : Prop := ∀ (pins : List (Addr × Obj)) (s : Shared), Inv X pins σ H s → wpAny (model X.prog X.w) X.A (eval e X.env) (EP X pins σ Q) X.xe s
def WTx (X : L2.Cx) (e : Expr) (σ : St) (H : Hp) (Q : Bool → Hp → Prop) : Prop := ∀ (pins : List (Addr × Obj)) (s : Shared), Inv X pins σ H s → wpAny (model X.prog X.w) X.A (PySem.isTrue e X.env (eval e X.env)) (TP X pins σ Q) X.xe s
def WWx (X : L2.Cx) (e : Expr) (σ : St) (H : Hp) (Q : Bool → Hp → Prop) : Prop := ∀ (whole : Sem Value) (pins : List (Addr × Obj)) (s : Shared), Inv X pins σ H s → wpAny (model X.prog X.w) X.A (PySem.isTrue e X.env whole) (TP X pins σ Q) X.xe s
def WAx (X : L2.Cx) (es : List Expr) (σ : St) (H : Hp) (Q : List V → Hp → Prop) : Prop := ∀ (pos : Pos) (pins : List (Addr × Obj)) (s : Shared), Inv X pins σ H s → wpAny (model X.prog X.w) X.A (spliced (backTo pos (starEach es X.env))) (AP X pins σ Q) X.xe s
theorem peW {X : L2.Cx} {e : Expr} : PE X e (WEx X e) := ⟨fun pins s σ H Q I h => h pins s I⟩
theorem ptW {X : L2.Cx} {e : Expr} : PT X e (WTx X e) := ⟨fun pins s σ H Q I h => h pins s I⟩
theorem pwW {X : L2.Cx} {e : Expr} : PW X e (WWx X e) := ⟨fun wh pins s σ H Q I h => h wh pins s I⟩
theorem paW {X : L2.Cx} {es : List Expr} : PA X es (WAx X es) := ⟨fun pos pins s σ H Q I h => h pos pins s I⟩
theorem PEw {X : L2.Cx} {e : Expr} {t : TE} (h : PE X e t) {σ : St} {H : Hp} {Q : VK} (q : t σ H Q) : WEx X e σ H Q := fun pins s I => h.run pins s σ H Q I q
theorem PTw {X : L2.Cx} {e : Expr} {t : TT} (h : PT X e t) {σ : St} {H : Hp} {Q : Bool → Hp → Prop} (q : t σ H Q) : WTx X e σ H Q := fun pins s I => h.run pins s σ H Q I q
theorem PWw {X : L2.Cx} {e : Expr} {t : TT} (h : PW X e t) {σ : St} {H : Hp} {Q : Bool → Hp → Prop} (q : t σ H Q) : WWx X e σ H Q := fun wh pins s I => h.run wh pins s σ H Q I q
theorem PAw {X : L2.Cx} {es : List Expr} {t : TA} (h : PA X es t) {σ : St} {H : Hp} {Q : List V → Hp → Prop} (q : t σ H Q) : WAx X es σ H Q := fun pos pins s I => h.run pos pins s σ H Q I q
theorem WEx.imp {X : L2.Cx} {e : Expr} {σ : St} {H : Hp} {Q Q' : VK} (h : WEx X e σ H Q) (hq : ∀ y H', Q y H' → Q' y H') : WEx X e σ H Q' := fun pins s I => thn (h pins s I) fun u s' ⟨y, H', I', r, q⟩ => ⟨y, H', I', r, hq _ _ q⟩

/-- the exception that the suite X holds in the slot i is x -/
def CurX (K : PySem.W.Frag) (M : Names) (X : L2.Cx) (v : Vw) (σ : St) (x : Exn) (i : Nat) : Prop :=
  ∃ (a : Addr) (oe : Obj) (cls : Value) (d : Option Addr), (a, oe) ∈ X.pn ∧ σ[i]? = some (some (.ref a)) ∧ Zc cls d oe ∧ (∃ vs, oe.data = .fields vs) ∧ RepX K M v x cls d
structure Fr (K : PySem.W.Frag) (M : Names) (X : L2.Cx) (c : Ev.Cx) (v : Vw) (e : En) (σ : St) : Prop where
  rep : RepE K M v e σ
  cur : ∀ x i, c.cur = some (x, i) → CurX K M X v σ x i
theorem RepX.mono {K : PySem.W.Frag} {M : Names} {v w : Vw} (n : Nx v w) {x : Exn} {cls : Value} {d : Option Addr} (h : RepX K M v x cls d) : RepX K M w x cls d := by
  obtain ⟨h1, h2⟩ := h
  refine ⟨h1, ?_⟩
  rcases h2 with h2 | ⟨dd, gs, e, hd, nl, hl⟩
  · exact .inl h2
  · exact .inr ⟨dd, gs, e, n.keep _ _ hd nl, n.notLive hd nl, fun f u hf => by
      obtain ⟨y, h3, h4⟩ := hl f u hf
      exact ⟨y, h3, h4.mono n⟩⟩
theorem Fr.mono {K : PySem.W.Frag} {M : Names} {X : L2.Cx} {c : Ev.Cx} {v w : Vw} {e : En} {σ : St} (n : Nx v w) (f : Fr K M X c v e σ) : Fr K M X c w e σ :=
  ⟨f.rep.mono n, fun x i hx => by
    obtain ⟨a, oe, cls, d, h1, h2, h3, h4, h5⟩ := f.cur x i hx
    exact ⟨a, oe, cls, d, h1, h2, h3, h4, h5.mono n⟩⟩

def bltNames : List String := ["len", "int", "abs", "str", "tuple", "list", "sum", "all", "any", "min", "max", "bool", "isinstance", "range", "reversed", "enumerate", "zip", "ValueError"]
/-- one ground, another frame -/
structure SameG (X X' : L2.Cx) : Prop where
  prog : X'.prog = X.prog
  w : X'.w = X.w
  K : X'.K = X.K
  mg : X'.mg = X.mg
  base : X'.base = X.base
  A : X'.A = X.A
theorem SameG.trans {X Y Z : L2.Cx} (a : SameG X Y) (b : SameG Y Z) : SameG X Z := ⟨b.1.trans a.1, b.2.trans a.2, b.3.trans a.3, b.4.trans a.4, b.5.trans a.5, b.6.trans a.6⟩
/-- one ground, the same room -/
structure SameH (X X' : L2.Cx) : Prop where
  prog : X'.prog = X.prog
  w : X'.w = X.w
  K : X'.K = X.K
  mg : X'.mg = X.mg
  base : X'.base = X.base
  dp : X'.A.depth = X.A.depth
  un : X'.A.units = X.A.units
theorem SameH.trans {X Y Z : L2.Cx} (a : SameH X Y) (b : SameH Y Z) : SameH X Z := ⟨b.1.trans a.1, b.2.trans a.2, b.3.trans a.3, b.4.trans a.4, b.5.trans a.5, b.6.trans a.6, b.7.trans a.7⟩
/-- what holds where code runs -/
structure Ok (K : PySem.W.Frag) (M : Names) (X : L2.Cx) (c : Ev.Cx) (N : List Str) (sc : Scope) (Wx : WX) : Prop where
  hK : X.K = K
  hN : X.N = N
  hs : X.env.scope = sc
  nd : N.Nodup
  tk : Takes X Wx
  room : X.A.units + 65 < cLine
  calm : c.calm = true → X.calm = true
  blt : ∀ x ∈ bltNames, X.mg (sx x) = none
  glob : ∀ x d, c.glob x = some d → ∃ u y, X.mg (sx x) = some u ∧ RelV y u ∧ ∀ v, Rep K M v d y
  fldI : ∀ C f, c.fld C f = true → Cls K (M.cls C) ∧ NoAttr K (M.cls C) (sx f)
  fldX : ∀ C f, c.fldX C f = true → XfC K (M.cls C) ∧ PySem.W.findIn K (.ref (M.cls C)) (sx f) = some none
  cm : c.calm = true → c.cur = none
  /-- a def's call, by values -/
  call : ∀ (X' : L2.Cx), SameG X X' → ∀ (Wx' : WX), Takes X' Wx' → ∀ (C f : String) (ws : List W) (S : Store) (v : Vw) (vs : List V) (us : List Value) (pins : List (Addr × Obj)) (σ : St) (s : Shared) (Q : VK), Sim K M v S → Inv X' pins σ v.H s → RepWs K M v ws vs → Vals vs us →
    PostQ K M v (fun cls d H => Wx' cls d σ H) Q (c.call C f ws S) → wpAny (model X'.prog X'.w) X'.A (PySem.call (.ref (M.fnA C f)) us) (EP X' pins σ Q) X'.xe s
  callG : ∀ f, c.defs "" f = true → X.mg (sx f) = some (.ref (M.fnA "" f)) ∧ PySem.W.keepIn X.K (.ref (M.fnA "" f)) = true
  callM : ∀ (C m : String), c.defs C m = true → C ≠ "" → Cls X.K (M.cls C) ∧ Meth X.K (M.cls C) (sx m) (M.fnA C m)
  make : ∀ (X' : L2.Cx), SameG X X' → ∀ (Wx' : WX), Takes X' Wx' → ∀ (C : String) (n : Nat) (ks : List String) (ws : List W) (S : Store) (v : Vw) (vs zs : List V) (us zus : List Value) (pins : List (Addr × Obj)) (σ : St) (s : Shared) (Q : VK), Sim K M v S → Inv X' pins σ v.H s → RepWs K M v ws (vs ++ zs) → Vals vs us → Vals zs zus →
    vs.length = n → zs.length = ks.length → PostQ K M v (fun cls d H => Wx' cls d σ H) Q (c.make C n ks ws S) → wpAny (model X'.prog X'.w) X'.A (PySem.call (.ref (M.cls C)) us ((ks.map sx).zip zus)) (EP X' pins σ Q) X'.xe s
  isx : ∀ x C b, c.isx x C = some b → L2.ExcC K (M.cls x) ∧ ((X.mg (sx C) = some (.ref (M.cls C)) ∧ PySem.W.kitOne K (.ref (M.cls x)) (.ref (M.cls C)) = some b) ∨ (C = "ValueError" ∧ X.mg (sx C) = none ∧ PySem.W.kitOne K (.ref (M.cls x)) (.type "ValueError") = some b))
  /-- a def called with the exception at hand -/
  hot : ∀ (X' : L2.Cx), SameH X X' → ∀ (f : String) (x : Exn) (S : Store) (v : Vw) (a : Addr) (oe : Obj) (cls : Value) (d : Option Addr) (pins : List (Addr × Obj)) (σ : St) (s : Shared) (Q : VK), (a, oe) ∈ X'.pn → Zc cls d oe → (∃ vs, oe.data = .fields vs) → RepX K M v x cls d → Sim K M v S → Inv X' pins σ v.H s →
    PostQ K M v (fun _ _ _ => False) Q (c.hot f x S) → wpAny (model X'.prog X'.w) X'.A (PySem.call (.ref (M.fnA "" f)) [.ref a]) (EP X' pins σ Q) X'.xe s
  hotG : ∀ f x S, c.hot f x S ≠ .no → X.mg (sx f) = some (.ref (M.fnA "" f)) ∧ PySem.W.keepIn X.K (.ref (M.fnA "" f)) = true
  hotE : ∀ f x S y T, c.hot f x S ≠ .err y T
  /-- an own exception is made -/
  mkx : c.calm = true → ∀ (X' : L2.Cx), SameG X X' → X'.calm = true → ∀ (C : String) (ns : List String) (ws : List W) (S : Store) (v : Vw) (vs : List V) (us : List Value) (pins : List (Addr × Obj)) (σ : St) (s : Shared) (Q : VK), c.exn C = some ns → Sim K M v S → Inv X' pins σ v.H s → RepWs K M v ws vs → Vals vs us → ns.length = ws.length →
    (∀ a v', Nx v v' → Sim K M v' (S ++ [.exc C (ns.zip ws)]) → RepW K M v' (.r S.length) (.ref a) → Q (.ref a) v'.H) → wpAny (model X'.prog X'.w) X'.A (PySem.call (.ref (M.cls C)) us) (EP X' pins σ Q) X'.xe s
  mkxG : ∀ C ns, c.exn C = some ns → X.mg (sx C) = some (.ref (M.cls C)) ∧ PySem.W.keepIn X.K (.ref (M.cls C)) = true
  makeG : ∀ (C : String), c.mks C = true → X.mg (sx C) = some (.ref (M.cls C)) ∧ PySem.W.keepIn X.K (.ref (M.cls C)) = true

section
variable (K : PySem.W.Frag) (M : Names)
def SE (x : E) : Prop := ∀ {X : L2.Cx} {c : Ev.Cx} {N : List Str} {sc : Scope} {Wx : WX}, Ok K M X c N sc Wx → ∀ {pe : Expr}, mE N sc x pe = true → okE pe = true → ∀ {v : Vw} {S : Store} {e : En} {σ : St} {Q : VK}, Sim K M v S → Fr K M X c v e σ →
  PostQ K M v (fun cls d H => Wx cls d σ H) Q (dX c x false e S) → WEx X pe σ v.H Q
def isBO : Expr → Bool
  | .BoolOp .. => true
  | _ => false
def ST (x : E) : Prop := ∀ {X : L2.Cx} {c : Ev.Cx} {N : List Str} {sc : Scope} {Wx : WX}, Ok K M X c N sc Wx → ∀ {pe : Expr}, mE N sc x pe = true → okE pe = true → ∀ {v : Vw} {S : Store} {e : En} {σ : St} {Q : Bool → Hp → Prop}, Sim K M v S → Fr K M X c v e σ →
  Post K M v (fun cls d H => Wx cls d σ H) (fun b _ v' => Q b v'.H) (dT c x e S) → (isBO pe = true → WWx X pe σ v.H Q) ∧ WTx X pe σ v.H Q
def SEs (es : Es) : Prop := ∀ {X : L2.Cx} {c : Ev.Cx} {N : List Str} {sc : Scope} {Wx : WX}, Ok K M X c N sc Wx → ∀ {l : List Expr}, mEs N sc es l = true → ∀ {v : Vw} {S : Store} {e : En} {σ : St} {Q : List V → Hp → Prop}, Sim K M v S → Fr K M X c v e σ →
  Post K M v (fun cls d H => Wx cls d σ H) (fun ws _ v' => ∀ vs, RepWs K M v' ws vs → Q vs v'.H) (dEs c es e S) → WAx X l σ v.H Q
def SL (x : E) : Prop := ∀ {X : L2.Cx} {c : Ev.Cx} {N : List Str} {sc : Scope} {Wx : WX}, Ok K M X c N sc Wx → ∀ {pe : Expr}, mE N sc x pe = true → okE pe = true → ∀ {v : Vw} {S : Store} {e : En} {σ : St} {Q : VK}, Sim K M v S → Fr K M X c v e σ →
  Post K M v (fun cls d H => Wx cls d σ H) (fun ws _ v' => ∀ a xs, v'.H a = none → RepWs K M v' ws xs → xs.length ≤ sizeLine → Q (.ref a) (upd v'.H a (.lst xs))) (dL c x e S) → WEx X pe σ v.H Q
end
section
variable {K : PySem.W.Frag} {M : Names} {X : L2.Cx} {c : Ev.Cx} {N : List Str} {sc : Scope} {Wx : WX} {v : Vw} {S : Store} {e : En} {σ : St} {Q : VK}

theorem Ok.gl (ok : Ok K M X c N sc Wx) {x : Str} (h : isG sc x = true) : Gl X x := by
  unfold isG at h
  have h' : sc.names.lookup x = some .globalImplicit := by simpa using h
  show X.env.scope.names.lookup x = _
  rw [ok.hs]
  exact h'
theorem Ok.vis (ok : Ok K M X c N sc Wx) {x : Str} (h : visB sc x = true) : Vis X.env.scope x := by
  rw [ok.hs]
  unfold visB at h
  unfold Vis
  split at h
  · exact .inl (by assumption)
  · exact .inr (.inl (by assumption))
  · exact .inr (.inr (by assumption))
  · cases h
theorem nm_d {x : Str} (h : nmOk x = true) : (x == ("__debug__" : Str)) = false ∧ (x == ("__classdict__" : Str)) = false := by
  unfold nmOk at h
  simp only [Bool.and_eq_true, beq_iff_eq] at h
  exact h
theorem post_no {α : Type} {E : XK} {ok : α → Store → Vw → Prop} (h : Post K M v E ok (.no : R α)) : False := h
/-- a comprehension apart -/
theorem attB {o : Expr} {f : Str} {env : Env} (h : okE o = true) : attributeBase o f env (eval o env) = eval o env := by
  unfold attributeBase
  split
  · rename_i o id _ _
    have : id ≠ ("super" : Str) := by simpa [okE] using h
    simp [this]
  · rfl
theorem starE {e : Expr} {es : List Expr} {env : Env} (h : okE e = true) : starEach (e :: es) env = (false, eval e env) :: starEach es env := by
  cases e <;> first | rfl | (exact absurd h Bool.false_ne_true)
theorem starAny {pos : Pos} {env : Env} : ∀ {l : List Expr}, l.all okE = true → (backTo pos (starEach l env)).any (·.1) = false
  | [], _ => rfl
  | e :: es, h => by
    simp only [List.all_cons, Bool.and_eq_true] at h
    rw [starE h.1]
    show (false || (backTo pos (starEach es env)).any (·.1)) = false
    rw [starAny h.2]
    rfl
theorem noBeh {op : CmpOp} {e : Expr} (h : okE e = true) : behindInMarks op e = false := by
  cases e <;> first | rfl | (exact absurd h Bool.false_ne_true)

/-! ### names and constants -/
theorem sE_v (i : Nat) : SE K M (.v i) := by
  intro X c N sc Wx ok pe hm _ v S e σ Q sim fr h
  cases pe with
  | Name x pos =>
    simp only [mE, Bool.and_eq_true, decide_eq_true_eq] at hm
    obtain ⟨⟨h1, h2⟩, h3⟩ := hm
    simp only [dX, tst_f] at h
    split at h
    · rename_i w hw
      obtain ⟨y, hy, ry⟩ := fr.rep.2 i w hw
      exact PEw (pe_var (by rw [ok.hN]; exact h1) (ok.vis h2) (nm_d h3).1 (nm_d h3).2) ⟨y, hy, h.now sim y ry⟩
    · exact h.elim
  | _ => cases hm
theorem sE_k (d : D) : SE K M (.k d) := by
  intro X c N sc Wx ok pe hm _ v S e σ Q sim fr h
  cases pe with
  | Constant u j pos =>
    have h : PostQ K M v (fun cls d H => Wx cls d σ H) Q (.ok (.d d) S) := h
    have hm : mC d u = true := hm
    cases d <;> cases u <;> first | (exact absurd hm Bool.false_ne_true) | skip
    · exact PEw pe_non (post_d h sim (by simp [Rep]))
    · have e1 : _ = _ := eq_of_beq hm
      subst e1
      exact PEw pe_bl (post_d h sim (by simp [Rep]))
    · have e1 : _ = _ := eq_of_beq hm
      subst e1
      exact PEw pe_int (post_d h sim (by simp [Rep]))
    · have e1 : _ = _ := of_decide_eq_true hm
      subst e1
      exact PEw pe_str (post_d h sim (by simp [Rep]))
  | _ => cases hm
theorem sE_g (x : String) : SE K M (.g x) := by
  intro X c N sc Wx ok pe hm _ v S e σ Q sim fr h
  cases pe with
  | Name y pos =>
    simp only [mE, Bool.and_eq_true, decide_eq_true_eq] at hm
    obtain ⟨⟨rfl, h2⟩, h3⟩ := hm
    simp only [dX, tst_f] at h
    split at h
    · rename_i d hd
      obtain ⟨u, z, h4, h5, h6⟩ := ok.glob x d hd
      exact PEw (pe_glob (ok.gl h2) h4 h5 (nm_d h3).1) (post_d h sim (h6 v))
    · exact h.elim
  | _ => cases hm

/-! ### rows -/
theorem sEs_nil : SEs K M .nil := by
  intro X c N sc Wx ok l hm v S e σ Q sim fr h
  cases l with
  | nil => exact PAw pa_nil (h.now sim [] rfl)
  | cons _ _ => cases hm
theorem sEs_cons {x : E} {r : Es} (hx : SE K M x) (hr : SEs K M r) : SEs K M (.cons x r) := by
  intro X c N sc Wx ok l hm v S e σ Q sim fr h
  cases l with
  | nil => cases hm
  | cons pe l =>
    simp only [mEs, Bool.and_eq_true] at hm
    obtain ⟨⟨h1, h2⟩, h3⟩ := hm
    simp only [dEs] at h
    refine PAw (pa_cons (te := WEx X pe) (t := WAx X l) peW paW (starE h1)) ?_
    refine hx ok h2 h1 sim fr (h.bind.imp fun w S1 v1 n1 s1 h1' y ry => ?_)
    refine hr ok h3 s1 (fr.mono n1) (h1'.bind.imp fun ws S2 v2 n2 s2 h2' vs rvs => ?_)
    exact h2'.now s2 (y :: vs) ⟨y, vs, rfl, ry.mono n2, rvs⟩
theorem sEs_star {x : E} {r : Es} (hx : SE K M x) (hr : SEs K M r) : SEs K M (.star x r) := by
  intro X c N sc Wx ok l hm v S e σ Q sim fr h
  cases l with
  | nil => cases hm
  | cons pe l =>
    cases pe with
    | Starred pe ps =>
      simp only [mEs, Bool.and_eq_true] at hm
      obtain ⟨⟨h1, h2⟩, h3⟩ := hm
      simp only [dEs] at h
      refine PAw (StX.pa_star (te := WEx X pe) (t := WAx X l) peW paW) ?_
      refine hx ok h2 h1 sim fr (h.bind.imp fun w S1 v1 n1 s1 h1' y ry => ?_)
      split at h1'
      · rename_i m hm'
        obtain ⟨p, xs, rfl, q, rr⟩ := seq_rep s1 hm' ry
        refine ⟨p, xs, rfl, by rw [ok.hK]; exact q.symm, ?_⟩
        refine hr ok h3 s1 (fr.mono n1) (h1'.bind.imp fun ws S2 v2 n2 s2 h2' vs rvs => ?_)
        exact h2'.now s2 (xs ++ vs) ((rr.mono n2).app rvs)
      · exact h1'.elim
    | _ => cases hm
theorem sE_tup {es : Es} (hs : SEs K M es) : SE K M (.tup es) := by
  intro X c N sc Wx ok pe hm _ v S e σ Q sim fr h
  cases pe with
  | Tuple l k pos =>
    have hm : mEs N sc es l = true := hm
    simp only [dX, tst_f] at h
    refine PEw (pe_tup (t := WAx X l) paW) ?_
    refine hs ok hm sim fr (h.bind.imp fun ws S1 v1 n1 s1 h1 vs rvs => ?_)
    split at h1
    · rename_i hl
      refine ⟨by rw [rvs.len, ← line_eq]; exact hl, fun p hp => ?_⟩
      split at h1
      · rename_i m hd
        exact post_tup h1 s1 (RepL.ofWs hd rvs) hp
      · exact h1.elim
    · exact h1.elim
  | _ => cases hm
theorem sE_lst {es : Es} (hs : SEs K M es) : SE K M (.lst es) := by
  intro X c N sc Wx ok pe hm _ v S e σ Q sim fr h
  cases pe with
  | List l pos =>
    have hm : mEs N sc es l = true := hm
    simp only [dX, tst_f] at h
    refine PEw (pe_lst (t := WAx X l) paW) ?_
    exact hs ok hm sim fr (h.bind.imp fun ws S1 v1 n1 s1 h1 vs rvs => post_new h1 s1 rvs)
  | _ => cases hm
theorem sL_lst {es : Es} (hs : SEs K M es) : SL K M (.lst es) := by
  intro X c N sc Wx ok pe hm _ v S e σ Q sim fr h
  cases pe with
  | List l pos =>
    have hm : mEs N sc es l = true := hm
    simp only [dL] at h
    refine PEw (pe_lst (t := WAx X l) paW) ?_
    refine hs ok hm sim fr (h.bind.imp fun ws S1 v1 n1 s1 h1 vs rvs => ?_)
    split at h1
    · rename_i hl
      have hz : vs.length ≤ sizeLine := by rw [rvs.len, ← line_eq]; exact hl
      refine ⟨hz, fun p hp => ?_⟩
      exact h1.now s1 p vs hp rvs hz
    · exact h1.elim
  | _ => cases hm
end
end Ev
end

section
set_option linter.all false
set_option autoImplicit false
/-! EvS6: operators, tests, subscripts, attributes. -/
namespace Ev
open PySem L2
section
variable {K : PySem.W.Frag} {M : Names}

/-! ### tests -/
theorem truth_rep {X : L2.Cx} (hK : X.K = K) {v : Vw} {S : Store} {w : W} {y : V} {b : Bool} (s : Sim K M v S) (r : RepW K M v w y) (h : truth S w = some b) : TruV X.K y v.H b := by
  subst hK
  cases w with
  | d d =>
    cases d <;> first | (cases h; done) | skip
    cases h
    simp only [RepW, Rep] at r
    subst r
    rfl
  | r n =>
    obtain ⟨hn, rfl⟩ := r
    simp only [truth] at h
    split at h
    · rename_i l e
      cases h
      obtain ⟨xs, e1, q⟩ := s.ob n _ e
      have : l.isEmpty = xs.isEmpty := by
        have := q.len
        cases l <;> cases xs <;> simp_all
      rw [this]
      exact .inl ⟨xs, SqL.of e1, rfl⟩
    · rename_i l e
      cases h
      obtain ⟨o, xs, e1, q⟩ := s.ob n _ e
      have : l.isEmpty = xs.isEmpty := by
        have := q.len
        cases l <;> cases xs <;> simp_all
      rw [this]
      exact .inl ⟨xs, .inl (.inr ⟨o, e1⟩), rfl⟩
    · cases h
/-- a value's test: plain -/
def plainT : Expr → Bool
  | .BoolOp .. => false
  | .UnaryOp .Not _ _ => false
  | .Compare .. => false
  | .IfExp .. => false
  | _ => true
theorem isTrue_pl {e : Expr} {env : Env} (h : plainT e = true) (whole : Sem Value) : PySem.isTrue e env whole = (do let v ← whole; standAt e.pos; holding [v] (truthy v)) := by
  cases e <;> first | rfl | (exact absurd h Bool.false_ne_true) | skip
  rename_i op x pos
  cases op <;> first | rfl | (exact absurd h Bool.false_ne_true)
def blOf (S : Store) (w : W) : R Bool := match truth S w with
  | some b => .ok b S
  | none => .no
theorem dT_tst {c : Ev.Cx} {x : E} {e : En} {S : Store} (h : dX c x true e S = tst true (dX c x false e S)) : dT c x e S = (dX c x false e S).bind fun w S1 => blOf S1 w := by
  unfold dT
  rw [h]
  cases dX c x false e S with
  | ok w S1 =>
    show ((match truth S1 w with
      | some b => R.ok (W.d (D.bl b)) S1
      | none => .no : R W).bind _) = _
    simp only [R.bind_ok, blOf]
    cases truth S1 w <;> rfl
  | err x S1 => rfl
  | no => rfl
theorem post_bl {E : XK} {v : Vw} {S : Store} {w : W} {Q : Bool → Hp → Prop} (h : Post K M v E (fun b _ v' => Q b v'.H) (blOf S w)) (s : Sim K M v S) : ∃ b, truth S w = some b ∧ Q b v.H := by
  unfold blOf at h
  split at h
  · rename_i b hb
    exact ⟨b, hb, h.now s⟩
  · exact h.elim
theorem sT_plain {x : E} (hx : SE K M x) (hb : ∀ c e S, dX c x true e S = tst true (dX c x false e S)) (hp : ∀ N sc pe, mE N sc x pe = true → plainT pe = true) : ST K M x := by
  intro X c N sc Wx ok pe hm ho v S e σ Q sim fr h
  have pl := hp N sc pe hm
  refine ⟨fun hbo => ?_, ?_⟩
  · cases pe <;> first | (exact absurd hbo Bool.false_ne_true) | (exact absurd pl Bool.false_ne_true)
  · rw [dT_tst (hb c e S)] at h
    refine PTw (pt_truth (ta := WEx X pe) peW (isTrue_pl pl)) ?_
    refine hx ok hm ho sim fr (h.bind.imp fun w S1 v1 n1 s1 h1 y ry => ?_)
    obtain ⟨b, hb', q⟩ := post_bl h1 s1
    exact ⟨b, truth_rep ok.hK s1 ry hb', q⟩

/-! ### and, or, not -/
/-- dT of and, or, not -/
theorem dT_and {c : Ev.Cx} {a b : E} {e : En} {S : Store} : dT c (.and a b) e S = (dT c a e S).bind fun q S1 => if q then dT c b e S1 else .ok false S1 := by
  unfold dT
  simp only [dX]
  cases dX c a true e S with
  | ok w S1 =>
    simp only [R.bind_ok]
    cases w with
    | d d => cases d <;> first | rfl | skip
             rename_i q
             cases q <;> rfl
    | r n => rfl
  | err x S1 => rfl
  | no => rfl
theorem dT_or {c : Ev.Cx} {a b : E} {e : En} {S : Store} : dT c (.or a b) e S = (dT c a e S).bind fun q S1 => if q then .ok true S1 else dT c b e S1 := by
  unfold dT
  simp only [dX]
  cases dX c a true e S with
  | ok w S1 =>
    simp only [R.bind_ok]
    cases w with
    | d d => cases d <;> first | rfl | skip
             rename_i q
             cases q <;> rfl
    | r n => rfl
  | err x S1 => rfl
  | no => rfl
theorem dT_not {c : Ev.Cx} {a : E} {e : En} {S : Store} : dT c (.not a) e S = (dT c a e S).bind fun q S1 => .ok (!q) S1 := by
  unfold dT
  simp only [dX]
  cases dX c a true e S with
  | ok w S1 =>
    simp only [R.bind_ok]
    cases w with
    | d d => cases d <;> rfl
    | r n => rfl
  | err x S1 => rfl
  | no => rfl
theorem sT_and {a b : E} (ha : ST K M a) (hb : ST K M b) : ST K M (.and a b) := by
  intro X c N sc Wx ok pe hm ho v S e σ Q sim fr h
  rw [dT_and] at h
  have key : WWx X pe σ v.H Q := by
    cases pe with
    | BoolOp op l pos =>
      cases op with
      | Or => cases hm
      | And =>
        cases l with
        | nil => cases hm
        | cons p l =>
          simp only [mE, Bool.and_eq_true] at hm
          obtain ⟨⟨h1, h2⟩, h3⟩ := hm
          cases l with
          | nil => cases h3
          | cons q r =>
            cases r with
            | nil =>
              simp only [Bool.and_eq_true] at h3
              refine PWw (pw_and (tA := WTx X p) ptW (pw_and1 (tA := WTx X q) ptW)) ?_
              refine (ha ok h2 h1 sim fr (h.bind.imp fun bq S1 v1 n1 s1 h1' => ?_)).2
              cases bq with
              | false => exact h1'.now s1
              | true => exact (hb ok h3.2 h3.1 s1 (fr.mono n1) h1').2
            | cons q2 r =>
              refine PWw (pw_and (tA := WTx X p) (tB' := WWx X (.BoolOp .And (q :: q2 :: r) pos)) ptW pwW) ?_
              refine (ha ok h2 h1 sim fr (h.bind.imp fun bq S1 v1 n1 s1 h1' => ?_)).2
              cases bq with
              | false => exact h1'.now s1
              | true => exact (hb ok h3 rfl s1 (fr.mono n1) h1').1 rfl
    | _ => cases hm
  exact ⟨fun _ => key, key _⟩
theorem sT_or {a b : E} (ha : ST K M a) (hb : ST K M b) : ST K M (.or a b) := by
  intro X c N sc Wx ok pe hm ho v S e σ Q sim fr h
  rw [dT_or] at h
  have key : WWx X pe σ v.H Q := by
    cases pe with
    | BoolOp op l pos =>
      cases op with
      | And => cases hm
      | Or =>
        cases l with
        | nil => cases hm
        | cons p l =>
          simp only [mE, Bool.and_eq_true] at hm
          obtain ⟨⟨h1, h2⟩, h3⟩ := hm
          cases l with
          | nil => cases h3
          | cons q r =>
            cases r with
            | nil =>
              simp only [Bool.and_eq_true] at h3
              refine PWw (pw_or (tA := WTx X p) ptW (pw_or1 (tA := WTx X q) ptW)) ?_
              refine (ha ok h2 h1 sim fr (h.bind.imp fun bq S1 v1 n1 s1 h1' => ?_)).2
              cases bq with
              | true => exact h1'.now s1
              | false => exact (hb ok h3.2 h3.1 s1 (fr.mono n1) h1').2
            | cons q2 r =>
              refine PWw (pw_or (tA := WTx X p) (tB' := WWx X (.BoolOp .Or (q :: q2 :: r) pos)) ptW pwW) ?_
              refine (ha ok h2 h1 sim fr (h.bind.imp fun bq S1 v1 n1 s1 h1' => ?_)).2
              cases bq with
              | true => exact h1'.now s1
              | false => exact (hb ok h3 rfl s1 (fr.mono n1) h1').1 rfl
    | _ => cases hm
  exact ⟨fun _ => key, key _⟩
theorem sT_not {a : E} (ha : ST K M a) : ST K M (.not a) := by
  intro X c N sc Wx ok pe hm ho v S e σ Q sim fr h
  rw [dT_not] at h
  cases pe with
  | UnaryOp op p pos =>
    cases op <;> first | (cases hm; done) | skip
    simp only [mE, Bool.and_eq_true] at hm
    refine ⟨fun hbo => absurd hbo Bool.false_ne_true, ?_⟩
    refine PTw (pt_not (tA := WTx X p) ptW) ?_
    exact (ha ok hm.2 hm.1 sim fr (h.bind.imp fun bq S1 v1 n1 s1 h1' => h1'.now s1)).2
  | _ => cases hm
/-- as values -/
theorem bl_match {E : XK} {v : Vw} {w : W} {y : V} {ok : W → Store → Vw → Prop} {t f : R W} (h : Post K M v E ok (match w with
    | .d (.bl true) => t
    | .d (.bl false) => f
    | _ => .no)) (ry : RepW K M v w y) : (y = .bl true ∧ Post K M v E ok t) ∨ (y = .bl false ∧ Post K M v E ok f) := by
  cases w with
  | d d =>
    cases d with
    | bl b =>
      simp only [RepW, Rep] at ry
      cases b with
      | true => exact .inl ⟨ry, h⟩
      | false => exact .inr ⟨ry, h⟩
    | _ => exact h.elim
  | r n => exact h.elim
theorem sE_and {a b : E} (ha : SE K M a) (hb : SE K M b) : SE K M (.and a b) := by
  intro X c N sc Wx ok pe hm _ v S e σ Q sim fr h
  simp only [dX] at h
  cases pe with
  | BoolOp op l pos =>
    cases op with
    | Or => cases hm
    | And =>
      cases l with
      | nil => cases hm
      | cons p l =>
        simp only [mE, Bool.and_eq_true] at hm
        obtain ⟨⟨h1, h2⟩, h3⟩ := hm
        cases l with
        | nil => cases h3
        | cons q r =>
          have fin : ∀ {tb : TE} , PE X (.BoolOp .And (q :: r) pos) tb → (∀ S1 v1, Nx v v1 → Sim K M v1 S1 → PostQ K M v1 (fun cls d H => Wx cls d σ H) Q (dX c b false e S1) → tb σ v1.H Q) → WEx X (.BoolOp .And (p :: q :: r) pos) σ v.H Q := by
            intro tb hp hq
            refine PEw (pe_and (ta := WEx X p) peW hp) ?_
            refine ha ok h2 h1 sim fr (h.bind.imp fun w S1 v1 n1 s1 h1' y ry => ?_)
            rcases bl_match h1' ry with ⟨rfl, h'⟩ | ⟨rfl, h'⟩
            · exact ⟨true, rfl, hq S1 v1 n1 s1 h'⟩
            · exact ⟨false, rfl, post_d h' s1 (by simp [Rep])⟩
          cases r with
          | nil =>
            simp only [Bool.and_eq_true] at h3
            exact fin (pe_one (t := WEx X q) peW) fun S1 v1 n1 s1 h' => hb ok h3.2 h3.1 s1 (fr.mono n1) h'
          | cons q2 r => exact fin (tb := WEx X (.BoolOp .And (q :: q2 :: r) pos)) peW fun S1 v1 n1 s1 h' => hb ok h3 rfl s1 (fr.mono n1) h'
  | _ => cases hm
theorem sE_or {a b : E} (ha : SE K M a) (hb : SE K M b) : SE K M (.or a b) := by
  intro X c N sc Wx ok pe hm _ v S e σ Q sim fr h
  simp only [dX] at h
  cases pe with
  | BoolOp op l pos =>
    cases op with
    | And => cases hm
    | Or =>
      cases l with
      | nil => cases hm
      | cons p l =>
        simp only [mE, Bool.and_eq_true] at hm
        obtain ⟨⟨h1, h2⟩, h3⟩ := hm
        cases l with
        | nil => cases h3
        | cons q r =>
          have fin : ∀ {tb : TE} , PE X (.BoolOp .Or (q :: r) pos) tb → (∀ S1 v1, Nx v v1 → Sim K M v1 S1 → PostQ K M v1 (fun cls d H => Wx cls d σ H) Q (dX c b false e S1) → tb σ v1.H Q) → WEx X (.BoolOp .Or (p :: q :: r) pos) σ v.H Q := by
            intro tb hp hq
            refine PEw (pe_or (ta := WEx X p) peW hp) ?_
            refine ha ok h2 h1 sim fr (h.bind.imp fun w S1 v1 n1 s1 h1' y ry => ?_)
            rcases bl_match h1' ry with ⟨rfl, h'⟩ | ⟨rfl, h'⟩
            · exact ⟨true, rfl, post_d h' s1 (by simp [Rep])⟩
            · exact ⟨false, rfl, hq S1 v1 n1 s1 h'⟩
          cases r with
          | nil =>
            simp only [Bool.and_eq_true] at h3
            exact fin (pe_one (t := WEx X q) peW) fun S1 v1 n1 s1 h' => hb ok h3.2 h3.1 s1 (fr.mono n1) h'
          | cons q2 r => exact fin (tb := WEx X (.BoolOp .Or (q :: q2 :: r) pos)) peW fun S1 v1 n1 s1 h' => hb ok h3 rfl s1 (fr.mono n1) h'
  | _ => cases hm
theorem sE_not {a : E} (ha : SE K M a) : SE K M (.not a) := by
  intro X c N sc Wx ok pe hm _ v S e σ Q sim fr h
  simp only [dX] at h
  cases pe with
  | UnaryOp op p pos =>
    cases op <;> first | (cases hm; done) | skip
    simp only [mE, Bool.and_eq_true] at hm
    refine PEw (pe_not (ta := WEx X p) peW) ?_
    refine ha ok hm.2 hm.1 sim fr (h.bind.imp fun w S1 v1 n1 s1 h1' y ry => ?_)
    cases w with
    | d d =>
      cases d with
      | bl b =>
        simp only [RepW, Rep] at ry
        exact ⟨b, ry, post_d h1' s1 (by simp [Rep])⟩
      | _ => exact h1'.elim
    | r n => exact h1'.elim
  | _ => cases hm
theorem sE_ite {q a b : E} (hq : ST K M q) (ha : SE K M a) (hb : SE K M b) : SE K M (.ite q a b) := by
  intro X c N sc Wx ok pe hm _ v S e σ Q sim fr h
  simp only [dX] at h
  cases pe with
  | IfExp p1 p2 p3 pos =>
    simp only [mE, Bool.and_eq_true] at hm
    obtain ⟨⟨⟨⟨⟨h1, h2⟩, h3⟩, h4⟩, h5⟩, h6⟩ := hm
    refine PEw (pe_ifExp (tA := WTx X p1) (ta := WEx X p2) (tb := WEx X p3) ptW peW peW) ?_
    have hd : (dT c q e S).bind (fun k S1 => if k then dX c a false e S1 else dX c b false e S1) = (dX c q true e S).bind fun w S1 => (match w with
      | .d (.bl true) => dX c a false e S1
      | .d (.bl false) => dX c b false e S1
      | _ => .no) := by
      unfold dT
      cases dX c q true e S with
      | ok w S1 =>
        simp only [R.bind_ok]
        cases w with
        | d d => cases d <;> first | rfl | skip
                 rename_i k
                 cases k <;> rfl
        | r n => rfl
      | err x S1 => rfl
      | no => rfl
    have h : PostQ K M v (fun cls d H => Wx cls d σ H) Q ((dT c q e S).bind (fun k S1 => if k then dX c a false e S1 else dX c b false e S1)) := by rw [hd]; exact h
    refine (hq ok h4 h1 sim fr (h.bind.imp fun k S1 v1 n1 s1 h1' => ?_)).2
    cases k with
    | true => exact ha ok h5 h2 s1 (fr.mono n1) h1'
    | false => exact hb ok h6 h3 s1 (fr.mono n1) h1'
  | _ => cases hm
end
end Ev
end

section
set_option linter.all false
set_option autoImplicit false
/-! EvS7: operators, built-ins, attributes, calls, methods. -/
namespace Ev
open PySem L2
section
variable {K : PySem.W.Frag} {M : Names}

/-! ### operators -/
theorem notComp_bin {o : O2} {q : Operator} (h : opB o q = true) : o ≠ .idx ∧ o ≠ .join ∧ o ≠ .index ∧ o ≠ .min2 ∧ o ≠ .max2 := by
  cases o <;> cases q <;> first | (exact absurd h Bool.false_ne_true) | (exact ⟨by decide, by decide, by decide, by decide, by decide⟩)
theorem sE_neg {a : E} (ha : SE K M a) : SE K M (.o1 .neg a) := by
  intro X c N sc Wx ok pe hm _ v S e σ Q sim fr h
  simp only [dX, tst_f] at h
  cases pe with
  | UnaryOp op p pos =>
    cases op <;> first | (cases hm; done) | skip
    simp only [mE, Bool.and_eq_true] at hm
    refine PEw (pe_un un_neg (ta := WEx X p) peW) ?_
    refine ha ok hm.2 hm.1 sim fr (h.bind.imp fun w S1 v1 n1 s1 h1 y ry => ?_)
    simp only [op1] at h1
    split at h1
    · simp only [RepW, Rep] at ry
      exact ⟨_, ry, post_d h1 s1 (by simp [Rep])⟩
    · exact h1.elim
  | _ => cases hm
theorem isN_rep {v : Vw} {w : W} {y : V} (r : RepW K M v w y) : decide (y = V.non) = decide (w = .d .non) := by
  cases w with
  | d d =>
    cases d with
    | non => simp only [RepW, Rep] at r; subst r; rfl
    | bl b => simp only [RepW, Rep] at r; subst r; rfl
    | int b => simp only [RepW, Rep] at r; subst r; rfl
    | str b => simp only [RepW, Rep] at r; subst r; rfl
    | tup l => simp only [RepW, Rep] at r; obtain ⟨a, xs, rfl, _⟩ := r; rfl
    | obj C l => simp only [RepW, Rep] at r; obtain ⟨a, dx, xs, rfl, _⟩ := r; rfl
    | fn f => simp only [RepW, Rep] at r; subst r; rfl
  | r n => obtain ⟨_, rfl⟩ := r; rfl
theorem isN_PC {a : E} (ha : SE K M a) {X : L2.Cx} {c : Ev.Cx} {N : List Str} {sc : Scope} {Wx : WX} (ok : Ok K M X c N sc Wx) {p : Expr} (h2 : mE N sc a p = true) (h1 : okE p = true) {v : Vw} {S : Store} {e : En} {σ : St} {Q : VK} (sim : Sim K M v S) (fr : Fr K M X c v e σ) (neg : Bool)
    (h : PostQ K M v (fun cls d H => Wx cls d σ H) Q ((dX c a false e S).bind fun w S1 => .ok (.d (.bl (if neg then !decide (w = .d .non) else decide (w = .d .non)))) S1)) :
    WEx X p σ v.H (fun y H' => Q (.bl (if neg then !decide (y = V.non) else decide (y = V.non))) H') := by
  refine ha ok h2 h1 sim fr (h.bind.imp fun w S1 v1 n1 s1 h1 y ry => ?_)
  show Q _ _
  rw [isN_rep ry]
  exact post_d h1 s1 (by simp [Rep])
theorem sE_isN {a : E} (ha : SE K M a) : SE K M (.o1 .isNone a) := by
  intro X c N sc Wx ok pe hm _ v S e σ Q sim fr h
  simp only [dX, tst_f, op1, isCall, Bool.false_and, Bool.false_eq_true, if_false] at h
  simp only [mE] at hm
  split at hm
  · simp only [Bool.and_eq_true] at hm
    exact PEw (pe_cmp (pc_isN peW) rfl) (isN_PC ha ok hm.2 hm.1 sim fr false h)
  · cases hm
theorem sE_notN {a : E} (ha : SE K M a) : SE K M (.o1 .notNone a) := by
  intro X c N sc Wx ok pe hm _ v S e σ Q sim fr h
  simp only [dX, tst_f, op1, isCall, Bool.false_and, Bool.false_eq_true, if_false] at h
  simp only [mE] at hm
  split at hm
  · simp only [Bool.and_eq_true] at hm
    exact PEw (pe_cmp (pc_notN peW) rfl) (isN_PC ha ok hm.2 hm.1 sim fr true h)
  · cases hm
/-- a test out of what a value's rule tells -/
theorem bl_tell {E : XK} {v : Vw} {S : Store} {b : Bool} {Q : Bool → Hp → Prop} (h : Post K M v E (fun b _ v' => Q b v'.H) (blOf S (.d (.bl b)))) (s : Sim K M v S) : Q b v.H := by
  obtain ⟨b', e, q⟩ := post_bl h s
  cases e
  exact q
theorem R.assoc {α β γ : Type} (r : R α) (f : α → Store → R β) (g : β → Store → R γ) : (r.bind f).bind g = r.bind fun a S => (f a S).bind g := by cases r <;> rfl
theorem blOf_bl (S : Store) (b : Bool) : blOf S (.d (.bl b)) = .ok b S := rfl
theorem Post.bindE {α β : Type} {v : Vw} {E : XK} {ok : β → Store → Vw → Prop} {r : R α} {f : α → Store → R β} (h : Post K M v E ok (r.bind f)) : Post K M v E (fun a S' v' => r = .ok a S' ∧ Post K M v' E ok (f a S')) r := by
  cases r with
  | ok a S' => exact fun v' n s => ⟨rfl, Post.later n h⟩
  | err e S' => exact h
  | no => exact h
theorem sT_isN {a : E} (ha : SE K M a) : ST K M (.o1 .isNone a) := by
  intro X c N sc Wx ok pe hm _ v S e σ Q sim fr h
  rw [dT_tst rfl] at h
  simp only [dX, tst_f, op1, isCall, Bool.false_and, Bool.false_eq_true, if_false, R.assoc, R.bind_ok, blOf_bl] at h
  simp only [mE] at hm
  split at hm
  · simp only [Bool.and_eq_true] at hm
    refine ⟨fun z => absurd z Bool.false_ne_true, PTw (pt_cmp (pc_isN peW) rfl) ?_⟩
    refine ha ok hm.2 hm.1 sim fr (h.bind.imp fun w S1 v1 n1 s1 h1 y ry => ?_)
    exact ⟨_, rfl, by rw [isN_rep ry]; exact h1.now s1⟩
  · cases hm
theorem sT_notN {a : E} (ha : SE K M a) : ST K M (.o1 .notNone a) := by
  intro X c N sc Wx ok pe hm _ v S e σ Q sim fr h
  rw [dT_tst rfl] at h
  simp only [dX, tst_f, op1, isCall, Bool.false_and, Bool.false_eq_true, if_false, R.assoc, R.bind_ok, blOf_bl] at h
  simp only [mE] at hm
  split at hm
  · simp only [Bool.and_eq_true] at hm
    refine ⟨fun z => absurd z Bool.false_ne_true, PTw (pt_cmp (pc_notN peW) rfl) ?_⟩
    refine ha ok hm.2 hm.1 sim fr (h.bind.imp fun w S1 v1 n1 s1 h1 y ry => ?_)
    exact ⟨_, rfl, by rw [isN_rep ry]; exact h1.now s1⟩
  · cases hm
theorem sE_rev {a : E} (ha : SE K M a) : SE K M (.o1 .rev a) := by
  intro X c N sc Wx ok pe hm _ v S e σ Q sim fr h
  simp only [dX, tst_f] at h
  simp only [mE] at hm
  split at hm
  · simp only [Bool.and_eq_true, decide_eq_true_eq] at hm
    obtain ⟨⟨rfl, h1⟩, h2⟩ := hm
    refine PEw (pe_revL peW) ?_
    refine ha ok h2 h1 sim fr (h.bind.imp fun w S1 v1 n1 s1 h1 y ry => ?_)
    simp only [op1] at h1
    split at h1
    · rename_i n
      split at h1
      · rename_i l e1
        obtain ⟨hn, rfl⟩ := ry
        obtain ⟨xs, e2, q⟩ := s1.ob n _ e1
        exact ⟨_, xs, rfl, by rw [ok.hK]; exact SqL.of e2, (post_new h1 s1 q.rev).2⟩
      · exact h1.elim
    · exact h1.elim
  · cases hm

/-- two operands -/
theorem two {a b : E} (ha : SE K M a) (hb : SE K M b) {X : L2.Cx} {c : Ev.Cx} {N : List Str} {sc : Scope} {Wx : WX} (ok : Ok K M X c N sc Wx) {p q : Expr} (ma : mE N sc a p = true) (oa : okE p = true) (mb : mE N sc b q = true) (ob : okE q = true)
    {v : Vw} {S : Store} {e : En} {σ : St} {α : Type} {okf : α → Store → Vw → Prop} {f : W → W → Store → R α} {Q : V → V → Hp → Prop} (sim : Sim K M v S) (fr : Fr K M X c v e σ)
    (h : Post K M v (fun cls d H => Wx cls d σ H) okf ((dX c a false e S).bind fun x S1 => (dX c b false e S1).bind fun y S2 => f x y S2))
    (hf : ∀ w u S2 v2 x y, Nx v v2 → Sim K M v2 S2 → RepW K M v2 w x → RepW K M v2 u y → Post K M v2 (fun cls d H => Wx cls d σ H) okf (f w u S2) → Q x y v2.H) :
    WEx X p σ v.H fun x H1 => WEx X q σ H1 fun y H2 => Q x y H2 := by
  refine ha ok ma oa sim fr (h.bind.imp fun w S1 v1 n1 s1 h1 x rx => ?_)
  refine hb ok mb ob s1 (fr.mono n1) (h1.bind.imp fun u S2 v2 n2 s2 h2 y ry => ?_)
  exact hf w u S2 v2 x y (n1.trans n2) s2 (rx.mono n2) ry h2
theorem sE_o2 {o : O2} {a b : E} (h1 : o ≠ .idx) (h2 : o ≠ .join) (h3 : o ≠ .index) (h4 : o ≠ .min2) (h5 : o ≠ .max2) (ha : SE K M a) (hb : SE K M b) : SE K M (.o2 o a b) := by
  intro X c N sc Wx ok pe hm _ v S e σ Q sim fr h
  simp only [dX, tst_f] at h
  have hm' : mBC o (mE N sc a) (mE N sc b) pe = true := by
    cases o <;> first | (exact hm) | (exact absurd rfl h1) | (exact absurd rfl h2) | (exact absurd rfl h3) | (exact absurd rfl h4) | (exact absurd rfl h5)
  have h : PostQ K M v (fun cls d H => Wx cls d σ H) Q ((dX c a false e S).bind fun x S1 => (dX c b false e S1).bind fun y S2 => op2 o x y S2) := by
    cases o <;> first | (exact h) | (exact absurd rfl h4) | (exact absurd rfl h5) | (exact absurd rfl h2) | (exact absurd rfl h3)
  unfold mBC at hm'
  split at hm'
  · simp only [Bool.and_eq_true] at hm'
    obtain ⟨⟨⟨⟨g1, g2⟩, g3⟩, g4⟩, g5⟩ := hm'
    refine PEw (pe_op anyOp peW peW) ?_
    exact two ha hb ok g4 g2 g5 g3 sim fr h fun w u S2 v2 x y n2 s2 rx ry h2 => o2_bin ok.hK g1 s2 rx ry h2
  · simp only [Bool.and_eq_true] at hm'
    obtain ⟨⟨⟨⟨g1, g2⟩, g3⟩, g4⟩, g5⟩ := hm'
    refine PEw (pe_cmpR anyOp peW peW (noBeh g3)) ?_
    exact two ha hb ok g4 g2 g5 g3 sim fr h fun w u S2 v2 x y n2 s2 rx ry h2 => o2_cmp ok.hK ok.room g1 s2 rx ry h2
  · cases hm'
theorem o2_isbl {o : O2} {q : CmpOp} (hq : cmB o q = true) {a b w : W} {S S' : Store} (h : op2 o a b S = .ok w S') : ∃ k, w = .d (.bl k) := by
  cases o <;> cases q <;> first | (exact absurd hq Bool.false_ne_true) | skip
  all_goals
    simp only [op2, cmpI] at h
    split at h <;> first | (cases h; exact ⟨_, rfl⟩) | (cases h; done) | skip
    all_goals (split at h <;> first | (cases h; exact ⟨_, rfl⟩) | (cases h; done))
/-- a comparison's answer, as a test's -/
theorem cmp_test {X : L2.Cx} {Wx : WX} {σ : St} {c : Ev.Cx} {N : List Str} {sc : Scope} (ok : Ok K M X c N sc Wx) {o : O2} {q : CmpOp} (hq : cmB o q = true) {a b : W} {x y : V} {v : Vw} {S : Store} {Q : Bool → Hp → Prop} (s : Sim K M v S) (ra : RepW K M v a x) (rb : RepW K M v b y)
    (h : Post K M v (fun cls d H => Wx cls d σ H) (fun b _ v' => Q b v'.H) ((op2 o a b S).bind fun w S1 => blOf S1 w)) : AnyOp X (compareOp q) x y v.H (fun z H' => ∃ k, z = .bl k ∧ Q k H') := by
  refine o2_cmp (E := fun cls d H => Wx cls d σ H) ok.hK ok.room hq s ra rb (h.bindE.imp fun w S1 v1 n1 s1 h1 z rz => ?_)
  obtain ⟨k, rfl⟩ := o2_isbl hq h1.1
  simp only [RepW, Rep] at rz
  exact ⟨k, rz, bl_tell h1.2 s1⟩
theorem sT_o2 {o : O2} {a b : E} (h1 : o ≠ .idx) (h2 : o ≠ .join) (h3 : o ≠ .index) (h4 : o ≠ .min2) (h5 : o ≠ .max2) (ha : SE K M a) (hb : SE K M b) : ST K M (.o2 o a b) := by
  intro X c N sc Wx ok pe hm ho v S e σ Q sim fr h
  have hm' : mBC o (mE N sc a) (mE N sc b) pe = true := by
    cases o <;> first | (exact hm) | (exact absurd rfl h1) | (exact absurd rfl h2) | (exact absurd rfl h3) | (exact absurd rfl h4) | (exact absurd rfl h5)
  unfold mBC at hm'
  split at hm'
  · refine ⟨fun z => absurd z Bool.false_ne_true, ?_⟩
    rw [dT_tst rfl] at h
    refine PTw (pt_truth peW (isTrue_pl rfl)) ?_
    refine sE_o2 h1 h2 h3 h4 h5 ha hb ok hm ho sim fr (h.bind.imp fun w S1 v1 n1 s1 h1 y ry => ?_)
    obtain ⟨b, hb', q⟩ := post_bl h1 s1
    exact ⟨b, truth_rep ok.hK s1 ry hb', q⟩
  · simp only [Bool.and_eq_true] at hm'
    obtain ⟨⟨⟨⟨g1, g2⟩, g3⟩, g4⟩, g5⟩ := hm'
    rw [dT_tst rfl] at h
    have h : Post K M v (fun cls d H => Wx cls d σ H) (fun b _ v' => Q b v'.H) (((dX c a false e S).bind fun x S1 => (dX c b false e S1).bind fun y S2 => op2 o x y S2).bind fun w S1 => blOf S1 w) := by
      cases o <;> first | (exact h) | (exact absurd rfl h4) | (exact absurd rfl h5) | (exact absurd rfl h2) | (exact absurd rfl h3)
    have e0 : (fun (x : W) (S1 : Store) => ((dX c b false e S1).bind fun y S2 => op2 o x y S2).bind fun w S1 => blOf S1 w) = fun x S1 => (dX c b false e S1).bind fun y S2 => (op2 o x y S2).bind fun w S1 => blOf S1 w := by
      funext x S1
      rw [R.assoc]
    rw [R.assoc, e0] at h
    refine ⟨fun z => absurd z Bool.false_ne_true, PTw (pt_cmpR anyOp peW peW (noBeh g3)) ?_⟩
    exact two ha hb ok g4 g2 g5 g3 sim fr h fun w u S2 v2 x y n2 s2 rx ry h2 => cmp_test ok g1 s2 rx ry h2
  · cases hm'

/-- a chain of two comparisons -/
theorem lastM {op op' : CmpOp} {b d : Expr} (h : okE d = true) : lastMarks [op, op'] [b, d] = false := by
  show lastMarks [op'] [d] = false
  show behindInMarks op' d = false
  exact noBeh h
theorem chain {o p : O2} {a b d : E} (ha : SE K M a) (hb : SE K M b) (hd : SE K M d) {X : L2.Cx} {c : Ev.Cx} {N : List Str} {sc : Scope} {Wx : WX} (ok : Ok K M X c N sc Wx) {q r : CmpOp} {a' b' d' : Expr} (hq : cmB o q = true) (hr : cmB p r = true) (oa : okE a' = true) (ob : okE b' = true) (od : okE d' = true) (ma : mE N sc a a' = true) (mb : mE N sc b b' = true) (md : mE N sc d d' = true)
    {v : Vw} {S : Store} {e : En} {σ : St} {Q : VK} (sim : Sim K M v S) (fr : Fr K M X c v e σ)
    (h : PostQ K M v (fun cls d H => Wx cls d σ H) Q (dX c (.ch o p a b d) false e S)) : tChain (AnyOp X (compareOp q)) (AnyOp X (compareOp r)) (WEx X a') (WEx X b') (WEx X d') σ v.H Q := by
  simp only [dX, tst_f] at h
  refine two ha hb ok ma oa mb ob sim fr h fun w u S2 v2 x y n2 s2 rx ry h2 => ?_
  refine o2_cmp (E := fun cls d H => Wx cls d σ H) ok.hK ok.room hq s2 rx ry (h2.bindE.imp fun z S3 v3 n3 s3 h3 zv rz => ?_)
  obtain ⟨k, rfl⟩ := o2_isbl hq h3.1
  have rz' := rz
  simp only [RepW, Rep] at rz'
  refine ⟨k, rz', ?_⟩
  cases k with
  | true =>
    rw [if_pos rfl]
    refine hd ok md od s3 (fr.mono (n2.trans n3)) (h3.2.bind.imp fun t S4 v4 n4 s4 h4 tv rt => ?_)
    exact o2_cmp ok.hK ok.room hr s4 ((ry.mono n3).mono n4) rt h4
  | false =>
    rw [if_neg Bool.false_ne_true]
    exact post_d h3.2 s3 (by simp [Rep])
theorem sE_ch {o p : O2} {a b d : E} (ha : SE K M a) (hb : SE K M b) (hd : SE K M d) : SE K M (.ch o p a b d) := by
  intro X c N sc Wx ok pe hm _ v S e σ Q sim fr h
  simp only [mE] at hm
  split at hm
  · simp only [Bool.and_eq_true] at hm
    obtain ⟨⟨⟨⟨⟨⟨⟨g1, g2⟩, g3⟩, g4⟩, g5⟩, g6⟩, g7⟩, g8⟩ := hm
    exact PEw (pe_chain anyOp anyOp peW peW peW (lastM g5)) (chain ha hb hd ok g1 g2 g3 g4 g5 g6 g7 g8 sim fr h)
  · cases hm
theorem sT_ch {o p : O2} {a b d : E} (ha : SE K M a) (hb : SE K M b) (hd : SE K M d) : ST K M (.ch o p a b d) := by
  intro X c N sc Wx ok pe hm _ v S e σ Q sim fr h
  simp only [mE] at hm
  split at hm
  · simp only [Bool.and_eq_true] at hm
    obtain ⟨⟨⟨⟨⟨⟨⟨g1, g2⟩, g3⟩, g4⟩, g5⟩, g6⟩, g7⟩, g8⟩ := hm
    refine ⟨fun z => absurd z Bool.false_ne_true, PTw (pt_chain anyOp anyOp peW peW peW (lastM g5)) ?_⟩
    rw [dT_tst rfl] at h
    refine chain ha hb hd ok g1 g2 g3 g4 g5 g6 g7 g8 sim fr (h.bindE.imp fun w S1 v1 n1 s1 h1 y ry => ?_)
    have : ∃ k, w = .d (.bl k) := by
      have e1 := h1.1
      simp only [dX, tst_f] at e1
      cases ea : dX c a false e S with
      | ok x S1' =>
        rw [ea] at e1
        simp only [R.bind_ok] at e1
        cases eb : dX c b false e S1' with
        | ok y' S2' =>
          rw [eb] at e1
          simp only [R.bind_ok] at e1
          cases eo : op2 o x y' S2' with
          | ok z S3' =>
            rw [eo] at e1
            simp only [R.bind_ok] at e1
            obtain ⟨k, rfl⟩ := o2_isbl g1 eo
            cases k with
            | true =>
              simp only at e1
              cases ed : dX c d false e S3' with
              | ok t S4' =>
                rw [ed] at e1
                exact o2_isbl g2 e1
              | err x S => rw [ed] at e1; cases e1
              | no => rw [ed] at e1; cases e1
            | false => cases e1; exact ⟨_, rfl⟩
          | err x S => rw [eo] at e1; cases e1
          | no => rw [eo] at e1; cases e1
        | err x S => rw [eb] at e1; cases e1
        | no => rw [eb] at e1; cases e1
      | err x S => rw [ea] at e1; cases e1
      | no => rw [ea] at e1; cases e1
    obtain ⟨k, rfl⟩ := this
    simp only [RepW, Rep] at ry
    exact ⟨k, ry, bl_tell h1.2 s1⟩
  · cases hm

/-! ### subscripts, slices -/
theorem plainIx {d : Expr} (h : isSl d = false) : PlainIx d := by
  intro o i
  cases d <;> first | rfl | (cases h)
theorem sE_idx {a b : E} (ha : SE K M a) (hb : SE K M b) : SE K M (.o2 .idx a b) := by
  intro X c N sc Wx ok pe hm _ v S e σ Q sim fr h
  simp only [dX, tst_f] at h
  simp only [mE] at hm
  split at hm
  · simp only [Bool.and_eq_true, Bool.not_eq_true'] at hm
    obtain ⟨⟨⟨⟨g1, g2⟩, g3⟩, g4⟩, g5⟩ := hm
    refine PEw (pe_ix anyIx peW peW (plainIx g3)) ?_
    exact two ha hb ok g4 g1 g5 g2 sim fr h fun w u S2 v2 x y n2 s2 rx ry h2 => o2_idx ok.hK s2 rx ry h2
  · cases hm
theorem isNone_eq {x : E} (h : isNone x = true) : x = .k .non := by
  cases x with
  | k c => cases c <;> first | rfl | (exact absurd h Bool.false_ne_true)
  | _ => exact absurd h Bool.false_ne_true
theorem sE_sl {a lo hi : E} (ha : SE K M a) (hl : SE K M lo) (hh : SE K M hi) : SE K M (.sl a lo hi) := by
  intro X c N sc Wx ok pe hm _ v S e σ Q sim fr h
  simp only [dX, tst_f] at h
  simp only [mE] at hm
  split at hm
  · rename_i p l u _ _
    simp only [Bool.and_eq_true] at hm
    obtain ⟨⟨⟨g1, g2⟩, g3⟩, g4⟩ := hm
    have opt : ∀ {x : E} (_ : SE K M x) {o : Option Expr}, ((match o with
        | some e => okE e && !isNone x && mE N sc x e
        | none => isNone x) = true) → ∃ t : TO, PO X o t ∧ ∀ {v : Vw} {S : Store} {Q : Option Int → Hp → Prop}, Sim K M v S → Fr K M X c v e σ → Post K M v (fun cls d H => Wx cls d σ H) (fun w _ v' => ∃ k, part (isNone x) w = some k ∧ Q k v'.H) (dX c x false e S) → t σ v.H Q := by
      intro x hx o ho
      cases o with
      | none =>
        have ho : isNone x = true := ho
        refine ⟨tNoPart, po_none, fun {v S Q} s f hp => ?_⟩
        have hx0 := isNone_eq ho
        subst hx0
        simp only [dX, tst_f] at hp
        obtain ⟨k, e1, q⟩ := hp.now s
        cases e1
        exact q
      | some p =>
        simp only [Bool.and_eq_true, Bool.not_eq_true'] at ho
        refine ⟨tPart (WEx X p), po_some peW, fun {v S Q} s f hp => ?_⟩
        refine hx ok ho.2 ho.1.1 s f (hp.imp fun w S1 v1 n1 s1 h1 y ry => ?_)
        obtain ⟨k, e1, q⟩ := h1
        rw [ho.1.2] at e1
        unfold part at e1
        rw [if_neg Bool.false_ne_true] at e1
        split at e1
        · cases e1
          simp only [RepW, Rep] at ry
          exact ⟨_, ry, q⟩
        · cases e1
    obtain ⟨tl, hl1, hl2⟩ := opt hl g3
    obtain ⟨th, hh1, hh2⟩ := opt hh g4
    refine PEw (pe_slice anySl peW hl1 hh1) ?_
    refine ha ok g2 g1 sim fr (h.bind.imp fun w S1 v1 n1 s1 h1 x rx => ?_)
    refine hl2 s1 (fr.mono n1) (h1.bind.imp fun wl S2 v2 n2 s2 h2 => ?_)
    split at h2
    · exact h2.elim
    · rename_i pl e1
      refine ⟨pl, e1, ?_⟩
      refine hh2 s2 (fr.mono (n1.trans n2)) (h2.bind.imp fun wh S3 v3 n3 s3 h3 => ?_)
      split at h3
      · exact h3.elim
      · rename_i ph e2
        exact ⟨ph, e2, sl_reads ok.hK s3 ((rx.mono n2).mono n3) h3⟩
  · cases hm
end
end Ev
end

section
set_option linter.all false
set_option autoImplicit false
/-! EvS8: calls. -/
namespace Ev
open PySem L2
section
variable {K : PySem.W.Frag} {M : Names}

/-! ### built-ins -/
theorem o1_calm {c : Ev.Cx} {o : O1} {E : XK} {v : Vw} {α : Type} {okf : α → Store → Vw → Prop} {r : R α} (ho : isCall o = true) (h : Post K M v E okf (if isCall o && !c.calm then .no else r)) : c.calm = true ∧ Post K M v E okf r := by
  rw [ho, Bool.true_and] at h
  cases hc : c.calm with
  | false =>
    rw [hc] at h
    exact h.elim
  | true =>
    rw [hc] at h
    exact ⟨rfl, h⟩
/-- a built-in's call -/
theorem blt_call {X : L2.Cx} {c : Ev.Cx} {N : List Str} {sc : Scope} {Wx : WX} (ok : Ok K M X c N sc Wx) {o : O1} {n : String} (ho : o1N o = some n) {p : Expr} {np pos : Pos} (hg : isG sc (sx n) = true) (hp : okE p = true) {σ : St} {H : Hp} {Q : VK}
    (h : WEx X p σ H fun x H1 => AnyCall X (bltV o) [x] H1 Q) : WEx X (.Call (.Name (sx n) np) [p] [] pos) σ H Q := by
  have fin : ∀ {te : TA}, PA X [p] te → (te σ H fun xs H1 => AnyCall X (bltV o) xs H1 Q) → WEx X (.Call (.Name (sx n) np) [p] [] pos) σ H Q := by
    intro te hpa hq
    have hb : X.mg (sx n) = none := ok.blt n (by cases o <;> first | (cases ho; done) | (cases ho; decide))
    cases o <;> first | (cases ho; done) | skip
    all_goals cases ho
    · exact PEw (pe_callB anyCall (ok.gl hg) hb (by decide +kernel) hpa (by decide +kernel) (by decide +kernel) (starE hp)) hq
    · exact PEw (pe_callTy anyCall (ok.gl hg) hb (by decide +kernel) hpa (by decide +kernel) (by decide +kernel) (starE hp)) hq
    · exact PEw (pe_callB anyCall (ok.gl hg) hb (by decide +kernel) hpa (by decide +kernel) (by decide +kernel) (starE hp)) hq
    · exact PEw (pe_callTy anyCall (ok.gl hg) hb (by decide +kernel) hpa (by decide +kernel) (by decide +kernel) (starE hp)) hq
    · exact PEw (pe_callTy anyCall (ok.gl hg) hb (by decide +kernel) hpa (by decide +kernel) (by decide +kernel) (starE hp)) hq
    · exact PEw (pe_callTy anyCall (ok.gl hg) hb (by decide +kernel) hpa (by decide +kernel) (by decide +kernel) (starE hp)) hq
    · exact PEw (pe_callB anyCall (ok.gl hg) hb (by decide +kernel) hpa (by decide +kernel) (by decide +kernel) (starE hp)) hq
    · exact PEw (pe_callB anyCall (ok.gl hg) hb (by decide +kernel) hpa (by decide +kernel) (by decide +kernel) (starE hp)) hq
    · exact PEw (pe_callB anyCall (ok.gl hg) hb (by decide +kernel) hpa (by decide +kernel) (by decide +kernel) (starE hp)) hq
    · exact PEw (pe_callB anyCall (ok.gl hg) hb (by decide +kernel) hpa (by decide +kernel) (by decide +kernel) (starE hp)) hq
    · exact PEw (pe_callB anyCall (ok.gl hg) hb (by decide +kernel) hpa (by decide +kernel) (by decide +kernel) (starE hp)) hq
    · exact PEw (pe_callTy anyCall (ok.gl hg) hb (by decide +kernel) hpa (by decide +kernel) (by decide +kernel) (starE hp)) hq
  exact fin (pa_cons (te := WEx X p) peW pa_nil (starE hp)) h
theorem o1N_call {o : O1} {n : String} (h : o1N o = some n) : isCall o = true := by cases o <;> first | rfl | (cases h)
theorem sE_o1c {o : O1} (hc : isCall o = true) {a : E} (ha : SE K M a) : SE K M (.o1 o a) := by
  intro X c N sc Wx ok pe hm _ v S e σ Q sim fr h
  simp only [dX, tst_f] at h
  obtain ⟨hcm, h⟩ := o1_calm hc h
  have hm' : (match pe with
      | .Call (.Name x _) [b] [] _ => (match o1N o with
        | some y => decide (x = sx y) && isG sc x && okE b && mE N sc a b
        | none => false)
      | _ => false) = true := by
    cases o <;> first | (exact absurd hc Bool.false_ne_true) | (simp only [mE] at hm; split at hm <;> first | exact hm | cases hm)
  split at hm'
  · split at hm'
    · rename_i y hy
      simp only [Bool.and_eq_true, decide_eq_true_eq] at hm'
      obtain ⟨⟨⟨rfl, g1⟩, g2⟩, g3⟩ := hm'
      refine blt_call ok hy g1 g2 ?_
      exact ha ok g3 g2 sim fr (h.bind.imp fun w S1 v1 n1 s1 h1 x rx => o1_call ok.hK (ok.calm hcm) hy s1 rx h1)
    · cases hm'
  · cases hm'
/-! ### fewer places -/
def Vw.cut (v : Vw) (n : Nat) : Vw := ⟨v.H, v.ρ, n⟩
theorem cut_live {v : Vw} {n : Nat} (h : n ≤ v.n) {a : Addr} (nl : ¬ v.live a) : ¬ (v.cut n).live a := fun ⟨m, hm, e⟩ => nl ⟨m, Nat.lt_of_lt_of_le hm h, e⟩
mutual
theorem Rep.cut {v : Vw} {n : Nat} (h : n ≤ v.n) : ∀ (d : D) (y : V), Rep K M v d y → Rep K M (v.cut n) d y
  | .non, _, r => r
  | .bl _, _, r => r
  | .int _, _, r => r
  | .str _, _, r => r
  | .tup l, _, r => by
    simp only [Rep] at r ⊢
    obtain ⟨a, xs, e, t, q⟩ := r
    refine ⟨a, xs, e, ?_, RepL.cut h l xs q⟩
    rcases t with ⟨t, nl⟩ | t
    · exact .inl ⟨t, cut_live h nl⟩
    · exact .inr t
  | .obj C fs, _, r => by
    simp only [Rep] at r ⊢
    obtain ⟨a, dx, gs, e, t, nl, q⟩ := r
    exact ⟨a, dx, gs, e, t, cut_live h nl, RepF.cut h fs gs q⟩
  | .fn _, _, r => r
theorem RepL.cut {v : Vw} {n : Nat} (h : n ≤ v.n) : ∀ (l : List D) (ys : List V), RepL K M v l ys → RepL K M (v.cut n) l ys
  | [], _, r => r
  | d :: ds, _, r => by
    simp only [RepL] at r ⊢
    obtain ⟨y, ys, e, q, t⟩ := r
    exact ⟨y, ys, e, Rep.cut h d y q, RepL.cut h ds ys t⟩
theorem RepF.cut {v : Vw} {n : Nat} (h : n ≤ v.n) : ∀ (l : List (String × D)) (ys : List (Str × V)), RepF K M v l ys → RepF K M (v.cut n) l ys
  | [], _, r => r
  | (f, d) :: ds, _, r => by
    simp only [RepF] at r ⊢
    obtain ⟨y, ys, e, q, t⟩ := r
    exact ⟨y, ys, e, Rep.cut h d y q, RepF.cut h ds ys t⟩
end
theorem RepW.cut {v : Vw} {n : Nat} (h : n ≤ v.n) : ∀ {w : W} {y : V}, W.lt n w = true → RepW K M v w y → RepW K M (v.cut n) w y
  | .d d, y, _, r => Rep.cut h d y r
  | .r m, _, l, ⟨_, e⟩ => ⟨of_decide_eq_true l, e⟩
theorem RepWs.cut {v : Vw} {n : Nat} (h : n ≤ v.n) : ∀ {l : List W} {ys : List V}, l.all (W.lt n) = true → RepWs K M v l ys → RepWs K M (v.cut n) l ys
  | [], _, _, r => r
  | _ :: _, _, c, ⟨y, ys, e, r, q⟩ => by
    simp only [List.all_cons, Bool.and_eq_true] at c
    exact ⟨y, ys, e, r.cut h c.1, RepWs.cut h c.2 q⟩
theorem RepWF.cut {v : Vw} {n : Nat} (h : n ≤ v.n) : ∀ {l : List (String × W)} {ys : List (Str × V)}, l.all (fun p => W.lt n p.2) = true → RepWF K M v l ys → RepWF K M (v.cut n) l ys
  | [], _, _, r => r
  | (_, _) :: _, _, c, ⟨y, ys, e, r, q⟩ => by
    simp only [List.all_cons, Bool.and_eq_true] at c
    exact ⟨y, ys, e, r.cut h c.1, RepWF.cut h c.2 q⟩
theorem RepK.cut {v : Vw} {n : Nat} (h : n ≤ v.n) : ∀ {l : List (D × W)} {ys : List (Key × V)}, l.all (fun p => W.lt n p.2) = true → RepK K M v l ys → RepK K M (v.cut n) l ys
  | [], _, _, r => r
  | (_, _) :: _, _, c, ⟨k, y, ys, e, kd, r, q⟩ => by
    simp only [List.all_cons, Bool.and_eq_true] at c
    exact ⟨k, y, ys, e, kd, r.cut h c.1, RepK.cut h c.2 q⟩
theorem RepO.cut {v : Vw} {n : Nat} (h : n ≤ v.n) {o : Ob} {a : Addr} (c : Ob.cl n o = true) (r : RepO K M v o a) : RepO K M (v.cut n) o a := by
  cases o with
  | lst l => obtain ⟨xs, e, q⟩ := r; exact ⟨xs, e, q.cut h c⟩
  | fro l => obtain ⟨o, xs, e, q⟩ := r; exact ⟨o, xs, e, q.cut h c⟩
  | ins C fs => obtain ⟨dx, gs, e, q⟩ := r; exact ⟨dx, gs, e, q.cut h c⟩
  | dic kvs => obtain ⟨gs, e, q⟩ := r; exact ⟨gs, e, q.cut h c⟩
  | exc C fs =>
    rcases r with ⟨h0, e⟩ | ⟨dx, gs, hs, e, e2, nl, q, hl⟩
    · exact .inl ⟨h0, e⟩
    · exact .inr ⟨dx, gs, hs, e, e2, fun ⟨m, hm, z⟩ => nl ⟨m, Nat.lt_of_lt_of_le hm h, z⟩, q.cut h c, hl⟩
theorem RepW.lt {v : Vw} : ∀ {w : W} {y : V}, RepW K M v w y → W.lt v.n w = true
  | .d _, _, _ => rfl
  | .r _, _, ⟨h, _⟩ => decide_eq_true h
theorem RepWs.lt {v : Vw} : ∀ {l : List W} {ys : List V}, RepWs K M v l ys → l.all (W.lt v.n) = true
  | [], _, _ => rfl
  | _ :: _, _, ⟨y, ys, e, r, q⟩ => by simp only [List.all_cons, Bool.and_eq_true]; exact ⟨r.lt, q.lt⟩
theorem RepWF.lt {v : Vw} : ∀ {l : List (String × W)} {ys : List (Str × V)}, RepWF K M v l ys → l.all (fun p => W.lt v.n p.2) = true
  | [], _, _ => rfl
  | (_, _) :: _, _, ⟨y, ys, e, r, q⟩ => by simp only [List.all_cons, Bool.and_eq_true]; exact ⟨r.lt, q.lt⟩
theorem RepK.lt {v : Vw} : ∀ {l : List (D × W)} {ys : List (Key × V)}, RepK K M v l ys → l.all (fun p => W.lt v.n p.2) = true
  | [], _, _ => rfl
  | (_, _) :: _, _, ⟨k, y, ys, e, kd, r, q⟩ => by simp only [List.all_cons, Bool.and_eq_true]; exact ⟨r.lt, q.lt⟩
theorem RepO.cl {v : Vw} {o : Ob} {a : Addr} (r : RepO K M v o a) : Ob.cl v.n o = true := by
  cases o with
  | lst l => obtain ⟨xs, e, q⟩ := r; exact q.lt
  | fro l => obtain ⟨o, xs, e, q⟩ := r; exact q.lt
  | ins C fs => obtain ⟨dx, gs, e, q⟩ := r; exact q.lt
  | dic kvs => obtain ⟨gs, e, q⟩ := r; exact q.lt
  | exc C fs =>
    rcases r with ⟨h0, e⟩ | ⟨dx, gs, hs, e, e2, nl, q, hl⟩
    · subst h0; rfl
    · exact q.lt
theorem Sim.cl {v : Vw} {S : Store} (s : Sim K M v S) : S.all (Ob.cl v.n) = true := by
  rw [List.all_eq_true]
  intro o ho
  obtain ⟨i, hi⟩ := List.getElem?_of_mem ho
  exact (s.ob i o hi).cl
theorem Sim.cut {v : Vw} {S : Store} (s : Sim K M v S) {n : Nat} (h : n ≤ v.n) (c : (S.take n).all (Ob.cl n) = true) : Sim K M (v.cut n) (S.take n) where
  n := by
    rw [List.length_take, ← s.n]
    show n = _
    omega
  inj := fun i j hi hj e => s.inj i j (Nat.lt_of_lt_of_le hi h) (Nat.lt_of_lt_of_le hj h) e
  ob := fun i o e => by
    have e' : S[i]? = some o := by
      rw [List.getElem?_take] at e
      split at e
      · exact e
      · cases e
    have hc : Ob.cl n o = true := List.all_eq_true.mp c o (List.mem_of_getElem? e)
    exact (s.ob i o e').cut h hc
theorem Nx.cut {v w : Vw} (x : Nx v w) : Nx v (w.cut v.n) where
  le := Nat.le_refl _
  ρ := fun m h => x.ρ m h
  new := fun m h1 h2 => absurd h2 (Nat.not_lt.mpr h1)
  keep := fun a o h nl => x.keep a o h nl
  dom := fun a h => x.dom a h
/-- a list made for one use: it goes again -/
theorem once_list {E : XK} {v1 : Vw} {S1 : Store} {ws : List W} {a : Addr} {xs : List V} {Q : VK} {d : D} (s1 : Sim K M v1 S1) (ha : v1.H a = none) (h : PostQ K M v1 E Q (.ok (.d d) S1)) : PostQ K M (v1.ext a (.lst xs)) E Q (.ok (.d d) (S1 ++ [.lst ws])) := by
  intro v' n' s' y ry
  have g : Nx v1 (v1.ext a (.lst xs)) := Nx.grown ha
  have n1 := g.trans n'
  have hle : v1.n ≤ v'.n := n1.le
  have e : (S1 ++ [Ob.lst ws]).take v1.n = S1 := by
    rw [s1.n]
    exact List.take_left
  have s2 : Sim K M (v'.cut v1.n) S1 := by
    have := s'.cut hle (by rw [e]; exact s1.cl)
    rw [e] at this
    exact this
  exact h (v'.cut v1.n) n1.cut s2 y (Rep.cut hle d y ry)
theorem fresh_rep {v1 : Vw} {S1 : Store} {ws : List W} {a : Addr} {xs : List V} (s1 : Sim K M v1 S1) (ha : v1.H a = none) (r : RepWs K M v1 ws xs) : Sim K M (v1.ext a (.lst xs)) (S1 ++ [.lst ws]) ∧ RepW K M (v1.ext a (.lst xs)) (.r S1.length) (.ref a) := by
  have g : Nx v1 (v1.ext a (.lst xs)) := Nx.grown ha
  refine ⟨s1.grown ha ⟨xs, upd_same, r.mono g⟩, ?_, ?_⟩
  · show S1.length < v1.n + 1
    rw [s1.n]; exact Nat.lt_succ_self _
  · show V.ref a = V.ref (if S1.length = v1.n then a else v1.ρ S1.length)
    rw [if_pos s1.n.symm]
theorem op1_store {o : O1} {w : W} {S S' : Store} {d : D} (h : op1 o w S = .ok (.d d) S') : S' = S := by
  cases o <;> simp only [op1, newL] at h <;> (repeat' split at h) <;> first | (cases h; rfl) | (cases h; done)
/-- .. of a new list -/
theorem sE_onl {o : O1} {l : E} (hl : SL K M l) : SE K M (.onl o l) := by
  intro X c N sc Wx ok pe hm _ v S e σ Q sim fr h
  simp only [dX, tst_f] at h
  simp only [mE] at hm
  split at hm
  · split at hm
    · rename_i y hy
      have hic := o1N_call hy
      rw [hic] at h
      simp only [Bool.and_eq_true, decide_eq_true_eq] at hm
      obtain ⟨⟨⟨rfl, g1⟩, g2⟩, g3⟩ := hm
      cases hcm : c.calm with
      | false =>
        rw [hcm] at h
        exact h.elim
      | true =>
        rw [hcm] at h
        have h : PostQ K M v (fun cls d H => Wx cls d σ H) Q ((dL c l e S).bind fun ws S1 => (match op1 o (.r S1.length) (S1 ++ [.lst ws]) with
          | .ok (.d x) _ => .ok (.d x) S1
          | _ => .no)) := h
        refine blt_call ok hy g1 g2 ?_
        refine hl ok g3 g2 sim fr (h.bind.imp fun ws S1 v1 n1 s1 h1 a xs ha rxs hz => ?_)
        obtain ⟨s2, r2⟩ := fresh_rep s1 ha rxs
        split at h1
        · rename_i d S2 e1
          have := op1_store e1
          subst this
          exact o1_call (v := v1.ext a (.lst xs)) ok.hK (ok.calm hcm) hy s2 r2 (by rw [e1]; exact once_list s1 ha h1)
        · exact h1.elim
    · cases hm
  · cases hm

/-! ### methods of built-ins -/
theorem one_ok {d : Expr} {env : Env} {pos : Pos} (h : okE d = true) : (((backTo pos (starEach [d] env)).all fun x => !x.1) && (backToKw pos (keywordEach [] env)).all (fun x => x.1.isSome) && decide (([d] : List Expr).length + ([] : List Keyword).length + (if ([] : List Keyword).isEmpty then 0 else 1) < 30)) = true := by
  rw [starE h]
  rfl
theorem join_len (s : List Char) : ∀ l : List (List Char), ((l.map tx).map (·.length)).sum + (l.map tx).length * (tx s).length = joinSz s l
  | [] => by simp [joinSz]
  | x :: r => by
    have := join_len s r
    simp only [List.map_cons, List.sum_cons, List.length_cons, joinSz, tx_len] at this ⊢
    rw [Nat.succ_mul]
    omega
theorem tx_app (a b : List Char) : tx a ++ tx b = tx (a ++ b) := by
  show (⟨_⟩ : Str) = ⟨_⟩
  simp [tx]
theorem join_tx (s : List Char) : ∀ l : List (List Char), Txt.join (tx s) (l.map tx) = tx (joinT s l) := by
  have key : ∀ l : List (List Char), Str.join (tx s) (l.map tx) = tx (joinT s l) := by
    intro l
    induction l with
    | nil => rfl
    | cons x r ih =>
      cases r with
      | nil => rfl
      | cons y r =>
        show tx x ++ tx s ++ Str.join (tx s) ((y :: r).map tx) = tx (x ++ s ++ joinT s (y :: r))
        rw [ih, tx_app, tx_app]
  intro l
  show PySem.Builtin.Str.glued (tx s) (l.map tx) = _
  rw [PySem.StrLaws.glued_eq_join, key]
/-- the reading of a join -/
theorem join_reads {X : L2.Cx} (hK : X.K = K) {E : XK} {v : Vw} {S : Store} {Q : VK} {a b : W} {x y : V} (s : Sim K M v S) (ra : RepW K M v a x) (rb : RepW K M v b y) (h : PostQ K M v E Q (op2 .join a b S)) :
    ∃ a p ys, x = V.str a ∧ [y] = [V.ref p] ∧ (SqL X.K v.H p (List.map V.str ys) ∨ SqT X.K v.H p (List.map V.str ys)) ∧ (List.map (fun x => x.length) ys).sum + ys.length * a.length ≤ 16777216 ∧ Q (V.str (Txt.join a ys)) v.H := by
  subst hK
  simp only [op2] at h
  split at h
  · rename_i sp l e1
    obtain ⟨m, e2, e3⟩ := Option.bind_eq_some_iff.mp e1
    obtain ⟨p, xs, rfl, q, r⟩ := dseq_rep s e2 rb
    have := toStr_rep e3 r
    subst this
    simp only [RepW, Rep] at ra
    subst ra
    split at h
    · rename_i hz
      refine ⟨_, p, l.map tx, rfl, rfl, q, by rw [join_len]; exact hz, ?_⟩
      rw [join_tx]
      exact post_d h s (by simp [Rep])
    · exact h.elim
  · exact h.elim
theorem str_of {v : Vw} {w : W} {x : V} (h : isStr w = true) (r : RepW K M v w x) : ∃ a, x = .str a := by
  cases w with
  | d d =>
    cases d <;> first | (cases h; done) | skip
    simp only [RepW, Rep] at r
    exact ⟨_, r⟩
  | r n => cases h
theorem sE_join {a b : E} (ha : SE K M a) (hb : SE K M b) : SE K M (.o2 .join a b) := by
  intro X c N sc Wx ok pe hm _ v S e σ Q sim fr h
  have h : PostQ K M v (fun cls d H => Wx cls d σ H) Q ((dX c a false e S).bind fun x S1 => if isStr x then (dX c b false e S1).bind fun y S2 => op2 .join x y S2 else .no) := h
  simp only [mE] at hm
  split at hm
  · simp only [Bool.and_eq_true, decide_eq_true_eq] at hm
    obtain ⟨⟨⟨⟨⟨rfl, g1⟩, g2⟩, g3⟩, g4⟩, g5⟩ := hm
    refine PEw (pe_join peW peW (starE g2) (attB g1) g3) ?_
    refine ha ok g4 g1 sim fr (h.bind.imp fun w S1 v1 n1 s1 h1 x rx => ?_)
    split at h1
    · rename_i hs
      refine ⟨str_of hs rx, ?_⟩
      refine hb ok g5 g2 s1 (fr.mono n1) (h1.bind.imp fun u S2 v2 n2 s2 h2 y ry => ?_)
      exact join_reads ok.hK s2 (rx.mono n2) ry h2
    · exact h1.elim
  · cases hm
theorem sE_joinl {a l : E} (ha : SE K M a) (hl : SL K M l) : SE K M (.joinl a l) := by
  intro X c N sc Wx ok pe hm _ v S e σ Q sim fr h
  simp only [dX, tst_f] at h
  simp only [mE] at hm
  split at hm
  · simp only [Bool.and_eq_true, decide_eq_true_eq] at hm
    obtain ⟨⟨⟨⟨⟨rfl, g1⟩, g2⟩, g3⟩, g4⟩, g5⟩ := hm
    refine PEw (pe_join peW peW (starE g2) (attB g1) g3) ?_
    refine ha ok g4 g1 sim fr (h.bind.imp fun w S1 v1 n1 s1 h1 x rx => ?_)
    split at h1
    · rename_i hs
      refine ⟨str_of hs rx, ?_⟩
      refine hl ok g5 g2 s1 (fr.mono n1) (h1.bind.imp fun ws S2 v2 n2 s2 h2 p xs hp rxs hz => ?_)
      obtain ⟨s3, r3⟩ := fresh_rep s2 hp rxs
      split at h2
      · rename_i d S3 e1
        have : S3 = S2 ++ [.lst ws] := by
          simp only [op2] at e1
          repeat' split at e1
          all_goals first | (cases e1; rfl) | (cases e1; done)
        subst this
        exact join_reads (v := v2.ext p (.lst xs)) ok.hK s3 ((rx.mono n2).mono (Nx.grown hp)) r3 (by rw [e1]; exact once_list s2 hp h2)
      · exact h2.elim
    · exact h1.elim
  · cases hm
/-- in a new list -/
theorem inl_reads {X : L2.Cx} {c : Ev.Cx} {N : List Str} {sc : Scope} {Wx : WX} (ok : Ok K M X c N sc Wx) {x l : E} (hx : SE K M x) (hl : SL K M l) {neg : Bool} {p q : Expr} (mx : mE N sc x p = true) (ox : okE p = true) (ml : mE N sc l q = true) (ol : okE q = true)
    {v : Vw} {S : Store} {e : En} {σ : St} {Q : VK} (sim : Sim K M v S) (fr : Fr K M X c v e σ) (h : PostQ K M v (fun cls d H => Wx cls d σ H) Q (dX c (.inl neg x l) false e S)) :
    WEx X p σ v.H fun y H1 => WEx X q σ H1 fun z H2 => AnyOp X (compareOp (if neg then .NotIn else .In)) y z H2 Q := by
  simp only [dX, tst_f] at h
  refine hx ok mx ox sim fr (h.bind.imp fun w S1 v1 n1 s1 h1 y ry => ?_)
  refine hl ok ml ol s1 (fr.mono n1) (h1.bind.imp fun ws S2 v2 n2 s2 h2 a xs ha rxs hz => ?_)
  obtain ⟨s3, r3⟩ := fresh_rep s2 ha rxs
  split at h2
  · rename_i d S3 e1
    have : S3 = S2 ++ [.lst ws] := by
      cases neg <;> simp only [op2, if_true, Bool.false_eq_true, if_false] at e1 <;> (split at e1) <;> first | (cases e1; rfl) | (cases e1; done)
    subst this
    have hq : cmB (if neg then .notin else .isin) (if neg then CmpOp.NotIn else CmpOp.In) = true := by cases neg <;> rfl
    exact o2_cmp (v := v2.ext a (.lst xs)) (E := fun cls d H => Wx cls d σ H) ok.hK ok.room hq s3 ((ry.mono n2).mono (Nx.grown ha)) r3 (by rw [e1]; exact once_list s2 ha h2)
  · exact h2.elim
theorem sE_inl {neg : Bool} {x l : E} (hx : SE K M x) (hl : SL K M l) : SE K M (.inl neg x l) := by
  intro X c N sc Wx ok pe hm _ v S e σ Q sim fr h
  simp only [mE] at hm
  split at hm
  · simp only [Bool.and_eq_true, decide_eq_true_eq] at hm
    obtain ⟨⟨⟨⟨rfl, g1⟩, g2⟩, g3⟩, g4⟩ := hm
    exact PEw (pe_cmpR anyOp peW peW (noBeh g2)) (inl_reads ok hx hl g3 g1 g4 g2 sim fr h)
  · cases hm
theorem sT_inl {neg : Bool} {x l : E} (hx : SE K M x) (hl : SL K M l) : ST K M (.inl neg x l) := by
  intro X c N sc Wx ok pe hm _ v S e σ Q sim fr h
  simp only [mE] at hm
  split at hm
  · simp only [Bool.and_eq_true, decide_eq_true_eq] at hm
    obtain ⟨⟨⟨⟨rfl, g1⟩, g2⟩, g3⟩, g4⟩ := hm
    refine ⟨fun z => absurd z Bool.false_ne_true, PTw (pt_cmpR anyOp peW peW (noBeh g2)) ?_⟩
    rw [dT_tst rfl] at h
    refine inl_reads ok hx hl g3 g1 g4 g2 sim fr ((Post.bindE (r := dX c (.inl neg x l) false e S) (f := fun w S1 => blOf S1 w) h).imp fun w S1 v1 n1 s1 h1 y ry => ?_)
    have : ∃ k, w = .d (.bl k) := by
      have e1 := h1.1
      simp only [dX, tst_f] at e1
      cases ea : dX c x false e S with
      | ok u S1' =>
        rw [ea] at e1
        simp only [R.bind_ok] at e1
        cases eb : dL c l e S1' with
        | ok ws S2' =>
          rw [eb] at e1
          simp only [R.bind_ok] at e1
          split at e1
          · rename_i d S3 e2
            cases e1
            cases neg <;> simp only [op2, if_true, Bool.false_eq_true, if_false] at e2 <;> (split at e2) <;> first | (cases e2; exact ⟨_, rfl⟩) | (cases e2; done)
          · cases e1
        | err x S => rw [eb] at e1; cases e1
        | no => rw [eb] at e1; cases e1
      | err x S => rw [ea] at e1; cases e1
      | no => rw [ea] at e1; cases e1
    obtain ⟨k, rfl⟩ := this
    simp only [RepW, Rep] at ry
    exact ⟨k, ry, bl_tell h1.2 s1⟩
  · cases hm
/-- a list of the store, as a receiver -/
theorem lst_of {X : L2.Cx} (hK : X.K = K) {v : Vw} {S : Store} {w : W} {x : V} (h : isLst S w = true) (s : Sim K M v S) (r : RepW K M v w x) : ∃ n, w = .r n ∧ n < v.n ∧ x = .ref (v.ρ n) ∧ L2.tyV X.K "list" x v.H := by
  subst hK
  cases w with
  | d d => cases h
  | r n =>
    obtain ⟨hn, rfl⟩ := r
    refine ⟨n, rfl, hn, rfl, ?_⟩
    simp only [isLst] at h
    split at h
    · rename_i l e
      obtain ⟨xs, e1, q⟩ := s.ob n _ e
      exact .inl ⟨rfl, xs, SqL.of e1⟩
    · cases h
/-- a change of a list of the store -/
theorem change_lst {E : XK} {v : Vw} {S : Store} {n : Nat} {l' : List W} {xs' : List V} {w : W} {Q : VK} {y : V} (s : Sim K M v S) (hn : n < v.n) (h : PostQ K M v E Q (.ok w (S.set n (.lst l')))) (r : RepWs K M v l' xs') (ry : RepW K M v w y) : Q y (upd v.H (v.ρ n) (.lst xs')) := by
  have g : Nx v (v.put (v.ρ n) (.lst xs')) := Nx.write hn
  exact h (v.put (v.ρ n) (.lst xs')) g (s.write hn ⟨xs', upd_same, r.mono g⟩) y (ry.mono g)
theorem sE_app {l x : E} (hl : SE K M l) (hx : SE K M x) : SE K M (.app l x) := by
  intro X c N sc Wx ok pe hm _ v S e σ Q sim fr h
  simp only [dX, tst_f] at h
  simp only [mE] at hm
  split at hm
  · rename_i d pos
    simp only [Bool.and_eq_true, decide_eq_true_eq] at hm
    obtain ⟨⟨⟨⟨⟨rfl, g1⟩, g2⟩, g3⟩, g4⟩, g5⟩ := hm
    refine PEw (pe_bm (es := []) PySem.F.plainAttrs_list PySem.F.slot_list_append PySem.F.type_list_append mt_append (to := WEx X _) peW (pa_cons (te := WEx X _) peW pa_nil (starE g2)) (attB g1) (one_ok g2) g3 (starE g2) rfl) ?_
    refine hl ok g4 g1 sim fr (h.bind.imp fun w S1 v1 n1 s1 h1 y ry => ?_)
    split at h1
    · rename_i hs
      obtain ⟨n, rfl, hn, rfl, ty⟩ := lst_of ok.hK hs s1 ry
      refine ⟨ty, ?_⟩
      refine hx ok g5 g2 s1 (fr.mono n1) (h1.bind.imp fun u S2 v2 n2 s2 h2 z rz => ?_)
      simp only at h2
      split at h2
      · rename_i ws e1
        split at h2
        · rename_i hz
          have hn2 : n < v2.n := Nat.lt_of_lt_of_le hn n2.le
          obtain ⟨xs, e2, q⟩ := s2.ob n _ e1
          refine ⟨v1.ρ n, xs, z, rfl, rfl, by rw [← n2.ρ n hn]; exact e2, by rw [q.len, ← line_eq]; exact hz, ?_⟩
          rw [← n2.ρ n hn]
          exact change_lst s2 hn2 h2 (q.app (RepWs.one rz)) (by simp [RepW, Rep])
        · exact h2.elim
      · exact h2.elim
    · exact h1.elim
  · cases hm
end
end Ev
end

section
set_option linter.all false
set_option autoImplicit false
/-! EvS9: list methods, isinstance, f-strings, attributes. -/
namespace Ev
open PySem L2
section
variable {K : PySem.W.Frag} {M : Names}

theorem getX {α : Type} {l : List α} {a : α} {i : Nat} (h : l[i]? = some a) : i < l.length := by
  rcases Nat.lt_or_ge i l.length with z | z
  · exact z
  · rw [List.getElem?_eq_none z] at h; cases h
theorem sE_ext {l x : E} (hl : SE K M l) (hx : SE K M x) : SE K M (.ext l x) := by
  intro X c N sc Wx ok pe hm _ v S e σ Q sim fr h
  simp only [dX, tst_f] at h
  simp only [mE] at hm
  split at hm
  · rename_i d pos
    simp only [Bool.and_eq_true, decide_eq_true_eq] at hm
    obtain ⟨⟨⟨⟨⟨rfl, g1⟩, g2⟩, g3⟩, g4⟩, g5⟩ := hm
    have hmt : MtR X "list.extend" _ := MtR.or mt_extend mt_extendT
    refine PEw (pe_bm (es := []) PySem.F.plainAttrs_list PySem.F.slot_list_extend PySem.F.type_list_extend hmt (to := WEx X _) peW (pa_cons (te := WEx X _) peW pa_nil (starE g2)) (attB g1) (one_ok g2) g3 (starE g2) rfl) ?_
    refine hl ok g4 g1 sim fr (h.bind.imp fun w S1 v1 n1 s1 h1 y ry => ?_)
    split at h1
    · rename_i hs
      obtain ⟨n, rfl, hn, rfl, ty⟩ := lst_of ok.hK hs s1 ry
      refine ⟨ty, ?_⟩
      refine hx ok g5 g2 s1 (fr.mono n1) (h1.bind.imp fun u S2 v2 n2 s2 h2 z rz => ?_)
      split at h2
      · rename_i a m vs ea e0
        cases ea
        split at h2
        · rename_i ws e1
          split at h2
          · rename_i hz
            have hn2 : n < v2.n := Nat.lt_of_lt_of_le hn n2.le
            obtain ⟨xs, e2, q⟩ := s2.ob n _ e1
            rw [← n2.ρ n hn]
            cases u with
            | d u =>
              cases u <;> simp only [extOf] at e0 <;> first | (cases e0; done) | skip
              rename_i tl
              cases e0
              simp only [RepW, Rep] at rz
              obtain ⟨a, zs, rfl, t, r⟩ := rz
              refine .inr ⟨_, a, xs, zs, rfl, rfl, e2, by rw [ok.hK]; exact t.sq, by rw [q.len, r.len, ← line_eq]; simpa using hz, ?_⟩
              exact change_lst s2 hn2 h2 (q.app (RepWs.ofL r)) (by simp [RepW, Rep])
            | r k =>
              simp only [extOf] at e0
              split at e0
              · rename_i l' e3
                cases e0
                obtain ⟨hk, rfl⟩ := rz
                obtain ⟨zs, e4, r⟩ := s2.ob k _ e3
                refine .inl ⟨_, _, xs, zs, rfl, rfl, e2, e4, by rw [q.len, r.len, ← line_eq]; exact hz, ?_⟩
                exact change_lst s2 hn2 h2 (q.app r) (by simp [RepW, Rep])
              · cases e0
          · exact h2.elim
        · exact h2.elim
      · exact h2.elim
    · exact h1.elim
  · cases hm
theorem RepWs.dropLast {v : Vw} {l : List W} {xs : List V} (r : RepWs K M v l xs) : RepWs K M v l.dropLast xs.dropLast := by
  rw [List.dropLast_eq_take, List.dropLast_eq_take, r.len]
  exact r.take _
theorem sE_pop {l : E} (hl : SE K M l) : SE K M (.pop l) := by
  intro X c N sc Wx ok pe hm _ v S e σ Q sim fr h
  simp only [dX, tst_f] at h
  simp only [mE] at hm
  split at hm
  · rename_i pos
    simp only [Bool.and_eq_true, decide_eq_true_eq] at hm
    obtain ⟨⟨⟨rfl, g1⟩, g3⟩, g4⟩ := hm
    refine PEw (pe_bm0 PySem.F.plainAttrs_list PySem.F.slot_list_pop PySem.F.type_list_pop mt_pop (to := WEx X _) peW (attB g1) g3) ?_
    refine hl ok g4 g1 sim fr (h.bind.imp fun w S1 v1 n1 s1 h1 y ry => ?_)
    split at h1
    · rename_i n
      split at h1
      · rename_i ws e1
        split at h1
        · rename_i u e0
          obtain ⟨hn, rfl⟩ := ry
          obtain ⟨xs, e2, q⟩ := s1.ob n _ e1
          have e3 : ws[ws.length - 1]? = some u := by rw [← List.getLast?_eq_getElem?]; exact e0
          obtain ⟨y, hy, ry⟩ := q.get e3
          refine ⟨.inl ⟨rfl, xs, SqL.of e2⟩, _, xs, y, rfl, rfl, e2, by rw [q.len]; exact hy, ?_⟩
          have g : Nx v1 (v1.put (v1.ρ n) (.lst xs.dropLast)) := Nx.write hn
          exact h1 _ g (s1.write hn ⟨_, upd_same, q.dropLast.mono g⟩) y (ry.mono g)
        · exact h1.elim
      · exact h1.elim
    · exact h1.elim
  · cases hm
theorem sE_insz {l x : E} (hl : SE K M l) (hx : SE K M x) : SE K M (.insz l x) := by
  intro X c N sc Wx ok pe hm _ v S e σ Q sim fr h
  simp only [dX, tst_f] at h
  simp only [mE] at hm
  split at hm
  · rename_i i j p0 d pos _
    simp only [Bool.and_eq_true, decide_eq_true_eq] at hm
    obtain ⟨⟨⟨⟨⟨⟨rfl, rfl⟩, g1⟩, g2⟩, g3⟩, g4⟩, g5⟩ := hm
    refine PEw (pe_bm (es := [d]) PySem.F.plainAttrs_list PySem.F.slot_list_insert PySem.F.type_list_insert mt_insert (to := WEx X _) peW (pa_cons (te := tC (.int 0)) pe_int (pa_cons (te := WEx X d) peW pa_nil (starE g2)) rfl) (attB g1) (by
      rw [show ∀ env, starEach [Expr.Constant (.int 0) j p0, d] env = (false, eval (Expr.Constant (.int 0) j p0) env) :: starEach [d] env from fun _ => rfl, starE g2]; rfl) g3 rfl (by rw [starE g2]; rfl)) ?_
    refine hl ok g4 g1 sim fr (h.bind.imp fun w S1 v1 n1 s1 h1 y ry => ?_)
    split at h1
    · rename_i hs
      obtain ⟨n, rfl, hn, rfl, ty⟩ := lst_of ok.hK hs s1 ry
      refine ⟨ty, ?_⟩
      refine hx ok g5 g2 s1 (fr.mono n1) (h1.bind.imp fun u S2 v2 n2 s2 h2 z rz => ?_)
      simp only at h2
      split at h2
      · rename_i ws e1
        split at h2
        · rename_i hz
          have hn2 : n < v2.n := Nat.lt_of_lt_of_le hn n2.le
          obtain ⟨xs, e2, q⟩ := s2.ob n _ e1
          refine ⟨v1.ρ n, xs, 0, z, rfl, rfl, by rw [← n2.ρ n hn]; exact e2, by rw [q.len, ← line_eq]; exact hz, by decide, by decide, ?_⟩
          rw [← n2.ρ n hn]
          exact change_lst s2 hn2 h2 ⟨z, xs, by simp, rz, q⟩ (by simp [RepW, Rep])
        · exact h2.elim
      · exact h2.elim
    · exact h1.elim
  · cases hm

/-! ### isinstance -/
def tyVal : Ty → V
  | .int => .ty "int"
  | .bool => .ty "bool"
  | .str => .ty "str"
  | .tuple => .ty "tuple"
  | .list => .ty "list"
  | .cls C => .non
theorem isi_ok {X : L2.Cx} (hK : X.K = K) {v : Vw} {S : Store} {w : W} {x : V} {ty : Ty} {b : Bool} {isx : String → String → Option Bool} (hc : ∀ C, ty ≠ .cls C) (s : Sim K M v S) (r : RepW K M v w x) (h : isiW isx w ty S = some b) : ∃ t u, ClsV (tyVal ty) u ∧ TyX X.K v.H x t ∧ PySem.W.kitOne X.K t u = some b := by
  subst hK
  have key : ∀ (t : String) (ty : Ty) (b : Bool), ((t = "int" ∧ b = (ty == .int)) ∨ (t = "bool" ∧ b = (ty == .int || ty == .bool)) ∨ (t = "str" ∧ b = (ty == .str)) ∨ (t = "tuple" ∧ b = (ty == .tuple)) ∨ (t = "NoneType" ∧ b = false) ∨ (t = "list" ∧ b = (ty == .list))) → (∀ C, ty ≠ .cls C) →
      ∃ u, ClsV (tyVal ty) u ∧ PySem.W.kitOne X.K (.type t) u = some b := by
    intro t ty b h hc
    cases ty with
    | cls C => exact absurd rfl (hc C)
    | int => exact ⟨_, .ty "int", by rcases h with ⟨rfl, rfl⟩ | ⟨rfl, rfl⟩ | ⟨rfl, rfl⟩ | ⟨rfl, rfl⟩ | ⟨rfl, rfl⟩ | ⟨rfl, rfl⟩ <;> kernel_rfl⟩
    | bool => exact ⟨_, .ty "bool", by rcases h with ⟨rfl, rfl⟩ | ⟨rfl, rfl⟩ | ⟨rfl, rfl⟩ | ⟨rfl, rfl⟩ | ⟨rfl, rfl⟩ | ⟨rfl, rfl⟩ <;> kernel_rfl⟩
    | str => exact ⟨_, .ty "str", by rcases h with ⟨rfl, rfl⟩ | ⟨rfl, rfl⟩ | ⟨rfl, rfl⟩ | ⟨rfl, rfl⟩ | ⟨rfl, rfl⟩ | ⟨rfl, rfl⟩ <;> kernel_rfl⟩
    | tuple => exact ⟨_, .ty "tuple", by rcases h with ⟨rfl, rfl⟩ | ⟨rfl, rfl⟩ | ⟨rfl, rfl⟩ | ⟨rfl, rfl⟩ | ⟨rfl, rfl⟩ | ⟨rfl, rfl⟩ <;> kernel_rfl⟩
    | list => exact ⟨_, .ty "list", by rcases h with ⟨rfl, rfl⟩ | ⟨rfl, rfl⟩ | ⟨rfl, rfl⟩ | ⟨rfl, rfl⟩ | ⟨rfl, rfl⟩ | ⟨rfl, rfl⟩ <;> kernel_rfl⟩
  cases w with
  | d d =>
    cases d with
    | non =>
      simp only [RepW, Rep] at r
      subst r
      have hb : b = false := by
        cases ty with
        | cls C => exact absurd rfl (hc C)
        | _ => exact (Option.some.inj h).symm
      obtain ⟨u, h1, h2⟩ := key "NoneType" ty b (by simp [hb]) hc
      exact ⟨_, u, h1, .base .non, h2⟩
    | bl y =>
      simp only [RepW, Rep] at r
      subst r
      have hb : b = (ty == .int || ty == .bool) := by
        cases ty with
        | cls C => exact absurd rfl (hc C)
        | _ => exact (Option.some.inj h).symm
      obtain ⟨u, h1, h2⟩ := key "bool" ty b (by simp [hb]) hc
      exact ⟨_, u, h1, .base (.bl _), h2⟩
    | int y =>
      simp only [RepW, Rep] at r
      subst r
      have hb : b = (ty == .int) := by
        cases ty with
        | cls C => exact absurd rfl (hc C)
        | _ => exact (Option.some.inj h).symm
      obtain ⟨u, h1, h2⟩ := key "int" ty b (by simp [hb]) hc
      exact ⟨_, u, h1, .base (.int _), h2⟩
    | str y =>
      simp only [RepW, Rep] at r
      subst r
      have hb : b = (ty == .str) := by
        cases ty with
        | cls C => exact absurd rfl (hc C)
        | _ => exact (Option.some.inj h).symm
      obtain ⟨u, h1, h2⟩ := key "str" ty b (by simp [hb]) hc
      exact ⟨_, u, h1, .base (.str _), h2⟩
    | tup l =>
      simp only [RepW, Rep] at r
      obtain ⟨a, xs, rfl, t, _⟩ := r
      have hb : b = (ty == .tuple) := by
        cases ty with
        | cls C => exact absurd rfl (hc C)
        | _ => exact (Option.some.inj h).symm
      obtain ⟨u, h1, h2⟩ := key "tuple" ty b (by simp [hb]) hc
      refine ⟨_, u, h1, ?_, h2⟩
      rcases t with ⟨t, _⟩ | ⟨o, its, n, e1, e2, e3⟩
      · exact .base (.tup t)
      · exact .kTuple e1 e2
    | obj C fs => simp [isiW] at h
    | fn f => simp [isiW] at h
  | r n =>
    obtain ⟨hn, rfl⟩ := r
    have h' : (match S[n]? with
      | some (Ob.lst _) => some (ty == .list)
      | _ => none) = some b := by cases ty <;> first | (exact absurd rfl (hc _)) | exact h
    split at h'
    · rename_i l e
      obtain ⟨xs, e1, q⟩ := s.ob n _ e
      have hb : b = (ty == .list) := (Option.some.inj h').symm
      obtain ⟨u, h1, h2⟩ := key "list" ty b (by simp [hb]) hc
      exact ⟨_, u, h1, .base (.lst e1), h2⟩
    · cases h'
theorem name_ty {X : L2.Cx} {c : Ev.Cx} {N : List Str} {sc : Scope} {Wx : WX} (ok : Ok K M X c N sc Wx) {ty : Ty} (hc : ∀ C, ty ≠ .cls C) (g3 : isG sc (sx (tyN ty)) = true) {p1 : Pos} : PE X (.Name (sx (tyN ty)) p1) (tC (tyVal ty)) := by
  cases ty with
  | cls C => exact absurd rfl (hc C)
  | int => exact pe_bltn (ok.gl g3) (ok.blt "int" (by decide)) (u := .type "int") (by decide +kernel) rfl (by decide +kernel) (by decide +kernel)
  | bool => exact pe_bltn (ok.gl g3) (ok.blt "bool" (by decide)) (u := .type "bool") (by decide +kernel) rfl (by decide +kernel) (by decide +kernel)
  | str => exact pe_bltn (ok.gl g3) (ok.blt "str" (by decide)) (u := .type "str") (by decide +kernel) rfl (by decide +kernel) (by decide +kernel)
  | tuple => exact pe_bltn (ok.gl g3) (ok.blt "tuple" (by decide)) (u := .type "tuple") (by decide +kernel) rfl (by decide +kernel) (by decide +kernel)
  | list => exact pe_bltn (ok.gl g3) (ok.blt "list" (by decide)) (u := .type "list") (by decide +kernel) rfl (by decide +kernel) (by decide +kernel)
/-- the class's name, behind the object -/
theorem name_cls {X : L2.Cx} {c : Ev.Cx} {N : List Str} {sc : Scope} {Wx : WX} (ok : Ok K M X c N sc Wx) {x C : String} {b : Bool} (g3 : isG sc (sx C) = true) (g4 : nmOk (sx C) = true) (hx : c.isx x C = some b) {a : Addr} {σ : St} {H : Hp} {Q : VK} {p1 : Pos} (he : ExcIn X H a (M.cls x)) (q : Q (.bl b) H) :
    WEx X (.Name (sx C) p1) σ H fun y H1 => rIsi X.K [.ref a, y] H1 Q ∨ rIsX X [.ref a, y] H1 Q := by
  obtain ⟨i1, i2⟩ := ok.isx x C b hx
  have hK := ok.hK
  rcases i2 with ⟨i2, i3⟩ | ⟨rfl, i2, i3⟩
  · refine PEw (pe_glob (v := .ref (M.cls C)) (ok.gl g3) i2 rfl (nm_d g4).1) (.inr ⟨a, M.cls x, .ref (M.cls C), .ref (M.cls C), b, rfl, .own _, by rw [hK]; exact i1, by rw [hK]; exact i3, he, q⟩)
  · refine PEw (pe_bltn (ok.gl g3) i2 (u := .type "ValueError") (v := .ty "ValueError") (by decide +kernel) rfl (by decide +kernel) (by decide +kernel)) (.inr ⟨a, M.cls x, .ty "ValueError", .type "ValueError", b, rfl, .ty _, by rw [hK]; exact i1, by rw [hK]; exact i3, he, q⟩)
theorem curC_some {cur : Option (Exn × Nat)} {a : E} {x : Exn} (h : curC cur a = some x) : ∃ i, a = .v i ∧ cur = some (x, i) := by
  unfold curC at h
  split at h
  · cases h
  · split at h
    · rename_i j _ i
      split at h
      · rename_i e
        cases h
        exact ⟨i, rfl, by rw [e]⟩
      · cases h
    · cases h
theorem ExcIn.of_cur {X : L2.Cx} {v : Vw} {x : Exn} {a : Addr} {oe : Obj} {cls : Value} {d : Option Addr} (h1 : (a, oe) ∈ X.pn) (h3 : Zc cls d oe) (h4 : ∃ vs, oe.data = .fields vs) (h5 : RepX K M v x cls d) : ExcIn X v.H a (M.cls x.C) := by
  obtain ⟨h5, h6⟩ := h5
  subst h5
  refine .inr (.inr ⟨oe, d, h1, h3, h4, ?_⟩)
  rcases h6 with ⟨_, h6⟩ | ⟨dd, gs, h6, h7, _⟩
  · exact .inl h6
  · exact .inr ⟨dd, gs, h6, h7⟩
theorem sE_isi {a : E} {ty : Ty} (ha : SE K M a) : SE K M (.isi a ty) := by
  intro X c N sc Wx ok pe hm _ v S e σ Q sim fr h
  simp only [dX, tst_f] at h
  simp only [mE] at hm
  split at hm
  · rename_i p0 b y p1 pos _
    simp only [Bool.and_eq_true, decide_eq_true_eq] at hm
    obtain ⟨⟨⟨⟨⟨⟨rfl, g0⟩, g1⟩, g2⟩, rfl⟩, g3⟩, g4⟩ := hm
    refine PEw (pe_callB (CallR.orR call_isi call_isX) (ok.gl g0) (ok.blt "isinstance" (by decide)) (by decide +kernel) (pa_cons (te := WEx X b) peW (pa_cons (te := WEx X (.Name (sx (tyN ty)) p1)) peW pa_nil rfl) (starE g1)) (by decide +kernel) (by decide +kernel) (starE g1) rfl) ?_
    split at h
    · rename_i x hx
      obtain ⟨i, rfl, ec⟩ := curC_some hx
      obtain ⟨p, oe, cls, d, h1, h2, h3, h4, h5⟩ := fr.cur x i ec
      have hb : ∃ C k, ty = .cls C ∧ c.isx x.C C = some k ∧ PostQ K M v (fun cls d H => Wx cls d σ H) Q (.ok (.d (.bl k)) S) := by
        cases ty with
        | cls C =>
          simp only [isXt] at h
          cases hk : c.isx x.C C with
          | none => rw [hk] at h; exact h.elim
          | some k => rw [hk] at h; exact ⟨C, k, rfl, hk, h⟩
        | _ => exact h.elim
      obtain ⟨C, k, rfl, hk, hp⟩ := hb
      have mv : ∃ z, N[i]? = some z ∧ visB sc z = true ∧ nmOk z = true ∧ ∃ pz, b = .Name z pz := by
        cases b with
        | Name z pz =>
          simp only [mE, Bool.and_eq_true, decide_eq_true_eq] at g2
          exact ⟨z, g2.1.1, g2.1.2, g2.2, pz, rfl⟩
        | _ => cases g2
      obtain ⟨z, k1, k2, k3, pz, rfl⟩ := mv
      refine PEw (pe_var (by rw [ok.hN]; exact k1) (ok.vis k2) (nm_d k3).1 (nm_d k3).2) ⟨.ref p, h2, ?_⟩
      exact name_cls ok g3 g4 hk (ExcIn.of_cur h1 h3 h4 h5) (post_d hp sim (by simp [Rep]))
    · refine ha ok g2 g1 sim fr (h.bind.imp fun w S1 v1 n1 s1 h1 x rx => ?_)
      split at h1
      · rename_i k hk
        by_cases hc : ∀ C, ty ≠ .cls C
        · obtain ⟨t, u, h2, h3, h4⟩ := isi_ok ok.hK hc s1 rx hk
          exact PEw (name_ty ok hc g3) (.inl ⟨x, tyVal ty, t, u, k, rfl, h2, h3, h4, post_d h1 s1 (by simp [Rep])⟩)
        · have : ∃ C, ty = .cls C := Classical.byContradiction fun z => hc fun C e => z ⟨C, e⟩
          obtain ⟨C, rfl⟩ := this
          have hw : ∃ n C' fs, w = .r n ∧ S1[n]? = some (.exc C' fs) ∧ c.isx C' C = some k := by
            cases w with
            | d d => cases d <;> simp [isiW] at hk
            | r n =>
              simp only [isiW] at hk
              split at hk
              · rename_i C' fs e
                exact ⟨n, C', fs, rfl, e, hk⟩
              · cases hk
          obtain ⟨n, C', fs, rfl, e1, hk⟩ := hw
          obtain ⟨hn, rfl⟩ := rx
          have hx : ExcIn X v1.H (v1.ρ n) (M.cls C') := by
            rcases s1.ob n _ e1 with ⟨_, e2⟩ | ⟨dx, gs, hs, e2, e3, _⟩
            · exact .inl e2
            · exact .inr (.inl ⟨dx, hs, e2, e3⟩)
          exact name_cls ok g3 g4 hk hx (post_d h1 s1 (by simp [Rep]))
      · exact h1.elim
  · cases hm

/-! ### attributes -/
theorem RepF.look {v : Vw} : ∀ {l : List (String × D)} {gs : List (Str × V)} {f : String} {u : D}, RepF K M v l gs → l.lookup f = some u → ∃ y, gs.lookup (sx f) = some y ∧ Rep K M v u y
  | [], _, _, _, _, h => by simp at h
  | (g, w) :: l, _, f, u, r0, h => by
    simp only [RepF] at r0
    obtain ⟨y, ys, e, r, q⟩ := r0
    subst e
    by_cases hg : f = g
    · subst hg
      simp at h
      subst h
      exact ⟨y, by simp, r⟩
    · have hb : (f == g) = false := by simpa using hg
      have hs : (sx f == sx g) = false := by
        have : sx f ≠ sx g := fun e => hg (sx_inj e)
        simpa using this
      simp only [List.lookup, hb] at h
      obtain ⟨z, h1, h2⟩ := RepF.look q h
      exact ⟨z, by simp only [List.lookup, hs]; exact h1, h2⟩
theorem sE_at {a : E} {f : String} (ha : SE K M a) : SE K M (.at a f) := by
  intro X c N sc Wx ok pe hm _ v S e σ Q sim fr h
  simp only [dX, tst_f] at h
  simp only [mE] at hm
  split at hm
  · simp only [Bool.and_eq_true, decide_eq_true_eq] at hm
    obtain ⟨⟨rfl, g1⟩, g2⟩ := hm
    refine PEw (pe_atX (te := WEx X _) peW (attB g1)) ?_
    refine ha ok g2 g1 sim fr (h.bind.imp fun w S1 v1 n1 s1 h1 x rx => ?_)
    cases w with
    | d d =>
      cases d <;> simp only [attW] at h1 <;> first | (exact h1.elim) | skip
      rename_i C fs
      split at h1
      · rename_i hf
        simp only [RepW, Rep] at rx
        obtain ⟨p, dx, gs, rfl, e1, nl, r⟩ := rx
        cases e2 : fs.lookup f with
        | none => rw [e2] at h1; exact h1.elim
        | some u =>
          rw [e2] at h1
          obtain ⟨y, h3, h4⟩ := r.look e2
          obtain ⟨i1, i2⟩ := ok.fldI C f hf
          exact .inl ⟨p, M.cls C, dx, gs, y, rfl, e1, by rw [ok.hK]; exact i1, by rw [ok.hK]; exact i2, h3, post_d h1 s1 h4⟩
      · exact h1.elim
    | r n =>
      simp only [attW] at h1
      split at h1
      · rename_i C fs e0
        split at h1
        · rename_i hf
          obtain ⟨hn, rfl⟩ := rx
          obtain ⟨dx, gs, e1, r⟩ := s1.ob n _ e0
          cases e2 : fs.lookup f with
          | none => rw [e2] at h1; exact h1.elim
          | some u =>
            rw [e2] at h1
            obtain ⟨y, h3, h4⟩ := r.look (fun g e => sx_inj e) e2
            obtain ⟨i1, i2⟩ := ok.fldI C f hf
            exact .inl ⟨_, M.cls C, dx, gs, y, rfl, e1, by rw [ok.hK]; exact i1, by rw [ok.hK]; exact i2, h3, Post.now h1 s1 y h4⟩
        · exact h1.elim
      · rename_i C fs e0
        split at h1
        · rename_i hf
          obtain ⟨hn, rfl⟩ := rx
          rcases s1.ob n _ e0 with ⟨h0, _⟩ | ⟨dx, gs, hs, e1, e3, nl, r, hl⟩
          · rw [h0] at h1; exact h1.elim
          · cases e2 : fs.lookup f with
            | none => rw [e2] at h1; exact h1.elim
            | some u =>
              rw [e2] at h1
              obtain ⟨y, h3, h4⟩ := r.look (fun g e => sx_inj e) e2
              obtain ⟨i1, i2⟩ := ok.fldX C f hf
              exact .inr ⟨_, M.cls C, dx, hs, y, rfl, e1, e3, by rw [ok.hK]; exact i1, by rw [ok.hK]; exact i2, hl _ _ h3, Post.now h1 s1 y h4⟩
        · exact h1.elim
      · exact h1.elim
  · cases hm
theorem sE_exf {i : Nat} {f : String} : SE K M (.exf i f) := by
  intro X c N sc Wx ok pe hm _ v S e σ Q sim fr h
  simp only [dX, tst_f] at h
  simp only [mE] at hm
  split at hm
  · simp only [Bool.and_eq_true, decide_eq_true_eq] at hm
    obtain ⟨⟨⟨rfl, g1⟩, g2⟩, g3⟩ := hm
    split at h
    · rename_i x j ec
      split at h
      · rename_i hij
        subst hij
        split at h
        · rename_i hf
          obtain ⟨a, oe, cls, d, h1, h2, h3, h4, h5, h6⟩ := fr.cur x i ec
          obtain ⟨i1, i2⟩ := ok.fldX x.C f hf
          cases e2 : x.fs.lookup f with
          | none => rw [e2] at h; exact h.elim
          | some u =>
            rw [e2] at h
            rcases h6 with ⟨h6, _⟩ | ⟨dd, gs, h6, h7, _, h8⟩
            · rw [h6] at e2; cases e2
            · obtain ⟨y, h9, h10⟩ := h8 f u e2
              refine PEw (pe_xfP (C := M.cls x.C) (by rw [ok.hK]; exact i1) (by rw [ok.hK]; exact i2) h1 h3 h4 (pe_var (by rw [ok.hN]; exact g1) (ok.vis g2) (nm_d g3).1 (nm_d g3).2) (attB rfl)) ?_
              exact ⟨.ref a, h2, rfl, h5, dd, gs, y, h6, h7, h9, Post.now h sim y h10⟩
        · exact h.elim
      · exact h.elim
    · exact h.elim
  · cases hm

/-! ### the first place of an equal one -/
theorem findD_py (x : D) (hx : x.dat 64 = true) : ∀ (l : List D) (n : Nat), D.datL l 64 = true → findD x l = some n → ∃ z, (toPyL l)[n]? = some z ∧ PyData.eqv z (toPy x) = true ∧ ∀ (m : Nat) (z' : PyData), m < n → (toPyL l)[m]? = some z' → PyData.eqv z' (toPy x) = false
  | [], n, _, h => by simp [findD] at h
  | y :: r, n, hl, h => by
    simp only [D.datL, Bool.and_eq_true] at hl
    simp only [findD] at h
    split at h
    · rename_i he
      cases h
      exact ⟨toPy y, by simp [toPyL], by rw [eqv_py y x 64 hl.1 hx]; exact he, fun m z' hm => absurd hm (Nat.not_lt_zero m)⟩
    · rename_i he
      simp only [Option.map_eq_some_iff] at h
      obtain ⟨k, hk, rfl⟩ := h
      obtain ⟨z, h1, h2, h3⟩ := findD_py x hx r k hl.2 hk
      refine ⟨z, by simpa [toPyL] using h1, h2, fun m z' hm hz => ?_⟩
      cases m with
      | zero =>
        simp only [toPyL, List.getElem?_cons_zero, Option.some.injEq] at hz
        subst hz
        rw [eqv_py y x 64 hl.1 hx]
        simpa using he
      | succ m => exact h3 m z' (by omega) (by simpa [toPyL] using hz)
theorem sE_index {a b : E} (ha : SE K M a) (hb : SE K M b) : SE K M (.o2 .index a b) := by
  intro X c N sc Wx ok pe hm _ v S e σ Q sim fr h
  have h : PostQ K M v (fun cls d H => Wx cls d σ H) Q ((dX c a false e S).bind fun x S1 => if isLst S1 x then (dX c b false e S1).bind fun y S2 => op2 .index x y S2 else .no) := h
  simp only [mE] at hm
  split at hm
  · rename_i d pos
    simp only [Bool.and_eq_true, decide_eq_true_eq] at hm
    obtain ⟨⟨⟨⟨⟨rfl, g1⟩, g2⟩, g3⟩, g4⟩, g5⟩ := hm
    refine PEw (pe_bm (es := []) PySem.F.plainAttrs_list PySem.F.slot_list_index PySem.F.type_list_index (mt_indexD ok.room) (to := WEx X _) peW (pa_cons (te := WEx X _) peW pa_nil (starE g2)) (attB g1) (one_ok g2) g3 (starE g2) rfl) ?_
    refine ha ok g4 g1 sim fr (h.bind.imp fun w S1 v1 n1 s1 h1 y ry => ?_)
    split at h1
    · rename_i hs
      obtain ⟨n, rfl, hn, rfl, ty⟩ := lst_of ok.hK hs s1 ry
      refine ⟨ty, ?_⟩
      refine hb ok g5 g2 s1 (fr.mono n1) (h1.bind.imp fun u S2 v2 n2 s2 h2 z rz => ?_)
      simp only [op2] at h2
      split at h2
      · rename_i x l ed
        split at h2
        · rename_i hd
          simp only [Bool.and_eq_true] at hd
          split at h2
          · rename_i k hk
            obtain ⟨p, vs, ep, q, r⟩ := dseq_lst s2 ed (ry.mono n2)
            obtain ⟨z0, k1, k2, k3⟩ := findD_py x hd.1 l k (datL_up l 63 hd.2) hk
            cases ep
            rw [← ok.hK] at q
            exact ⟨_, z, toPy x, toPyL l, k, z0, rfl, rfl, .lst q (by rw [ok.hK]; exact RepL.dp l 63 vs hd.2 r), by rw [ok.hK]; exact Rep.dp x 64 z hd.1 rz, toPyL_shaped hd.2, toPy_shaped hd.1, k1, k2, k3, post_d h2 s2 (by simp [Rep])⟩
          · exact h2.elim
        · exact h2.elim
      · exact h2.elim
    · exact h1.elim
  · cases hm

/-! ### f-strings -/
theorem fmt_rep {v : Vw} {w : W} {x : V} {out : List Char} (h : fmt w = some out) (r : RepW K M v w x) : (∃ y : Str, x = .str y ∧ y.length ≤ sizeLine ∧ y = tx out) ∨ ∃ i : Int, x = .int i ∧ i.natAbs.log2 < 1920 ∧ Str.ofString (toString i) = tx out := by
  cases w with
  | d d =>
    cases d <;> simp only [fmt] at h <;> first | (cases h; done) | skip
    · simp only [RepW, Rep] at r
      split at h
      · rename_i hl
        cases h
        exact .inr ⟨_, r, hl, str_digs _⟩
      · cases h
    · simp only [RepW, Rep] at r
      split at h
      · rename_i hl
        cases h
        exact .inl ⟨_, r, by rw [tx_len, ← line_eq]; exact hl, rfl⟩
      · cases h
  | r n => cases h
section
variable (K M)
def SFs (es : Es) : Prop := ∀ {X : L2.Cx} {c : Ev.Cx} {N : List Str} {sc : Scope} {Wx : WX}, Ok K M X c N sc Wx → ∀ {l : List Expr}, mFs N sc es l = true → ∀ {v : Vw} {S : Store} {e : En} {σ : St} {Q : VK} {acc : List Char}, Sim K M v S → Fr K M X c v e σ →
  PostQ K M v (fun cls d H => Wx cls d σ H) Q (dFs c es acc e S) → tJs (l.map (WEx X)) (tx acc) σ v.H (fun out H1 => Q (.str out) H1)
end
theorem sFs_nil : SFs K M .nil := by
  intro X c N sc Wx ok l hm v S e σ Q acc sim fr h
  cases l with
  | nil => exact post_d h sim (by simp [Rep])
  | cons _ _ => cases hm
theorem sFs_star {x : E} {r : Es} : SFs K M (.star x r) := by
  intro X c N sc Wx ok l hm v S e σ Q acc sim fr h
  exact h.elim
theorem tx_two (a b : List Char) : tx a ++ tx b = tx (a ++ b) := tx_app a b
theorem sFs_cons {x : E} {r : Es} (hx : SE K M x) (hr : SFs K M r) : SFs K M (.cons x r) := by
  intro X c N sc Wx ok l hm v S e σ Q acc sim fr h
  simp only [dFs] at h
  cases l with
  | nil => cases hm
  | cons pe l =>
    simp only [mFs] at hm
    split at hm
    · rename_i e' i p l' el
      cases el
      simp only [Bool.and_eq_true, decide_eq_true_eq] at hm
      obtain ⟨⟨⟨rfl, g1⟩, g2⟩, g3⟩ := hm
      simp only [List.map_cons, tJs]
      refine PEw (pe_fmt (te := WEx X e') peW) ?_
      refine hx ok g2 g1 sim fr (h.bind.imp fun w S1 v1 n1 s1 h1 y ry => ?_)
      split at h1
      · rename_i out eo
        split at h1
        · rename_i hz
          have hz' : (tx acc ++ tx out).length ≤ sizeLine := by rw [tx_app, tx_len, ← line_eq, List.length_append]; exact hz
          have next := hr ok g3 s1 (fr.mono n1) h1
          rw [← tx_app] at next
          rcases fmt_rep eo ry with ⟨z, rfl, hl, rfl⟩ | ⟨i, rfl, hl, he⟩
          · exact .inl ⟨_, rfl, hl, _, rfl, hz', next⟩
          · refine .inr ⟨i, rfl, hl, tx out, ?_, hz', next⟩
            show V.str (Str.ofString (toString i)) = _
            rw [he]
        · exact h1.elim
      · exact h1.elim
    · rename_i y j p l' el
      cases el
      simp only [Bool.and_eq_true] at hm
      obtain ⟨g1, g2⟩ := hm
      have : ∃ s, x = .k (.str s) ∧ tx s = y := by
        split at g1
        · exact ⟨_, rfl, of_decide_eq_true g1⟩
        · cases g1
      obtain ⟨s, rfl, rfl⟩ := this
      simp only [dX, tst_f, R.bind_ok, fmt] at h
      simp only [List.map_cons, tJs]
      split at h
      · rename_i out eo
        split at eo
        · cases eo
          split at h
          · rename_i hz
            have hz' : (tx acc ++ tx s).length ≤ sizeLine := by rw [tx_app, tx_len, ← line_eq, List.length_append]; exact hz
            have next := hr ok g2 sim fr h
            rw [← tx_app] at next
            exact PEw pe_str ⟨tx s, rfl, hz', next⟩
          · exact h.elim
        · cases eo
      · exact h.elim
    · cases hm
theorem pj_all {X : L2.Cx} : ∀ l : List Expr, PJ X l (l.map (WEx X))
  | [] => .nil
  | _ :: l => .cons peW (pj_all l)
theorem sE_fs {es : Es} (hs : SFs K M es) : SE K M (.fs es) := by
  intro X c N sc Wx ok pe hm _ v S e σ Q sim fr h
  simp only [dX, tst_f] at h
  simp only [mE] at hm
  split at hm
  · rename_i l pos _
    simp only [Bool.and_eq_true, decide_eq_true_eq] at hm
    obtain ⟨g1, g2⟩ := hm
    match l, g1, g2 with
    | a :: b :: l, _, g2 => exact PEw (pe_joined (pj_all _)) (hs ok g2 sim fr h)
  · cases hm
end
end Ev
end

section
set_option linter.all false
set_option autoImplicit false
/-! EvS10: targets, walks. -/
namespace Ev
open PySem L2
section
variable {K : PySem.W.Frag} {M : Names}

/-! ### a list off the store, gone -/
def Vw.del (v : Vw) (D : Addr) : Vw := ⟨fun b => if b = D then none else v.H b, v.ρ, v.n⟩
theorem del_ne {v : Vw} {D a : Addr} (h : a ≠ D) : (v.del D).H a = v.H a := if_neg h
theorem TupAt.del {v : Vw} {D : Addr} {zs : List V} (hD : v.H D = some (.lst zs)) {a : Addr} {xs : List V} (h : TupAt K v a xs) : TupAt K (v.del D) a xs := by
  rcases h with ⟨h, nl⟩ | h
  · refine .inl ⟨?_, nl⟩
    rw [del_ne (fun z => by rw [z, hD] at h; cases h)]
    exact h
  · exact .inr h
mutual
theorem Rep.del {v : Vw} {D : Addr} {zs : List V} (hD : v.H D = some (.lst zs)) : ∀ (d : Ev.D) (y : V), Rep K M v d y → Rep K M (v.del D) d y
  | .non, _, h => h
  | .bl _, _, h => h
  | .int _, _, h => h
  | .str _, _, h => h
  | .tup l, _, h => by
    simp only [Rep] at h ⊢
    obtain ⟨a, xs, e, t, r⟩ := h
    exact ⟨a, xs, e, t.del hD, RepL.del hD l xs r⟩
  | .obj C fs, _, h => by
    simp only [Rep] at h ⊢
    obtain ⟨a, dx, gs, e, t, nl, r⟩ := h
    exact ⟨a, dx, gs, e, by rw [del_ne (fun z => by rw [z, hD] at t; cases t)]; exact t, nl, RepF.del hD fs gs r⟩
  | .fn _, _, h => h
theorem RepL.del {v : Vw} {D : Addr} {zs : List V} (hD : v.H D = some (.lst zs)) : ∀ (l : List Ev.D) (ys : List V), RepL K M v l ys → RepL K M (v.del D) l ys
  | [], _, h => h
  | d :: ds, _, h => by
    simp only [RepL] at h ⊢
    obtain ⟨y, ys, e, r, q⟩ := h
    exact ⟨y, ys, e, Rep.del hD d y r, RepL.del hD ds ys q⟩
theorem RepF.del {v : Vw} {D : Addr} {zs : List V} (hD : v.H D = some (.lst zs)) : ∀ (l : List (String × Ev.D)) (ys : List (Str × V)), RepF K M v l ys → RepF K M (v.del D) l ys
  | [], _, h => h
  | (f, d) :: ds, _, h => by
    simp only [RepF] at h ⊢
    obtain ⟨y, ys, e, r, q⟩ := h
    exact ⟨y, ys, e, Rep.del hD d y r, RepF.del hD ds ys q⟩
end
theorem RepW.del {v : Vw} {D : Addr} {zs : List V} (hD : v.H D = some (.lst zs)) : ∀ {u : W} {y : V}, RepW K M v u y → RepW K M (v.del D) u y
  | .d d, y, h => Rep.del hD d y h
  | .r m, _, h => h
theorem RepWs.del {v : Vw} {D : Addr} {zs : List V} (hD : v.H D = some (.lst zs)) : ∀ {l : List W} {ys : List V}, RepWs K M v l ys → RepWs K M (v.del D) l ys
  | [], _, h => h
  | _ :: _, _, ⟨y, ys, e, r, q⟩ => ⟨y, ys, e, RepW.del hD r, RepWs.del hD q⟩
theorem RepWF.del {v : Vw} {D : Addr} {zs : List V} (hD : v.H D = some (.lst zs)) : ∀ {l : List (String × W)} {ys : List (Str × V)}, RepWF K M v l ys → RepWF K M (v.del D) l ys
  | [], _, h => h
  | (_, _) :: _, _, ⟨y, ys, e, r, q⟩ => ⟨y, ys, e, RepW.del hD r, RepWF.del hD q⟩
theorem RepK.del {v : Vw} {D : Addr} {zs : List V} (hD : v.H D = some (HO.lst zs)) : ∀ {l : List (Ev.D × W)} {ys : List (Key × V)}, RepK K M v l ys → RepK K M (v.del D) l ys
  | [], _, h => h
  | (_, _) :: _, _, ⟨k, y, ys, e, kd, r, q⟩ => ⟨k, y, ys, e, kd, RepW.del hD r, RepK.del hD q⟩
theorem repO_del {v : Vw} {D : Addr} {zs : List V} (hD : v.H D = some (HO.lst zs)) {o : Ob} {a : Addr} (ha : a ≠ D) (h : RepO K M v o a) : RepO K M (v.del D) o a := by
  have hk : (v.del D).H a = v.H a := del_ne ha
  cases o with
  | lst l => obtain ⟨xs, e, r⟩ := h; exact ⟨xs, hk.trans e, r.del hD⟩
  | fro l => obtain ⟨o, xs, e, r⟩ := h; exact ⟨o, xs, hk.trans e, r.del hD⟩
  | ins C fs => obtain ⟨dx, gs, e, r⟩ := h; exact ⟨dx, gs, hk.trans e, r.del hD⟩
  | dic kvs => obtain ⟨gs, e, r⟩ := h; exact ⟨gs, hk.trans e, r.del hD⟩
  | exc C fs =>
    rcases h with ⟨h0, e⟩ | ⟨dx, gs, hs, e, e2, nl, r, hl⟩
    · exact .inl ⟨h0, hk.trans e⟩
    · exact .inr ⟨dx, gs, hs, hk.trans e, (del_ne (fun z => by rw [z, hD] at e2; cases e2)).trans e2, nl, r.del hD, hl⟩
theorem Sim.del {v : Vw} {D : Addr} {zs : List V} (hD : v.H D = some (.lst zs)) {S : Store} (nl : ¬ v.live D) (s : Sim K M v S) : Sim K M (v.del D) S where
  n := s.n
  inj := s.inj
  ob := fun i o e => repO_del hD (fun z => nl ⟨i, by
    have := getX e
    rw [s.n]; exact this, z⟩) (s.ob i o e)
theorem Nx.del {u v : Vw} {D : Addr} (x : Nx u v) (h : u.H D = none) : Nx u (v.del D) where
  le := x.le
  ρ := x.ρ
  new := x.new
  keep := fun a o e nl => by
    rw [del_ne (fun z => by rw [z, h] at e; cases e)]
    exact x.keep a o e nl
  dom := fun a e => by
    rw [del_ne (fun z => e (by rw [z]; exact h))]
    exact x.dom a e
theorem upd_del {v : Vw} {D : Addr} {o : HO} : upd (v.del D).H D o = upd v.H D o := by
  funext b
  by_cases hb : b = D
  · rw [hb, upd_same, upd_same]
  · rw [upd_ne hb, upd_ne hb, del_ne hb]
theorem del_same {v : Vw} {D : Addr} : (v.del D).H D = none := if_pos rfl

/-! ### targets -/
mutual
def gT (K : PySem.W.Frag) : T → TG
  | .n i => gName i
  | .t ts => gTup K ts.length (gTs K ts)
def gTs (K : PySem.W.Frag) : List T → TGs
  | [] => gNil
  | u :: us => gCons (gT K u) (gTs K us)
end
theorem noStar {N : List Str} {sc : Scope} {u : T} {e : Expr} {es : List Expr} {env : Env} (h : mT N sc u e = true) : assignEach (e :: es) env = (false, assign e env) :: assignEach es env := by
  cases u with
  | n i => cases e <;> first | (cases h; done) | rfl
  | t ts => cases e <;> first | (cases h; done) | rfl
theorem mTs_each {N : List Str} {sc : Scope} {env : Env} : ∀ {ts : List T} {es : List Expr}, mTs N sc ts es = true → (assignEach es env).length = ts.length ∧ (assignEach es env).findIdx? (·.1) = none
  | [], [], _ => ⟨rfl, rfl⟩
  | u :: us, e :: es, h => by
    simp only [mTs, Bool.and_eq_true] at h
    obtain ⟨h1, h2⟩ := mTs_each (env := env) h.2
    rw [noStar h.1]
    refine ⟨by simp [h1], ?_⟩
    rw [List.findIdx?_cons]
    simp only [Bool.false_eq_true, if_false]
    rw [h2]
    rfl
  | [], _ :: _, h => by cases h
  | _ :: _, [], h => by cases h
mutual
theorem pgT {X : L2.Cx} {N : List Str} {sc : Scope} (hK : X.K = K) (hN : X.N = N) (hs : X.env.scope = sc) (nd : N.Nodup) (hc : X.calm = true) : ∀ (t : T) (e : Expr), mT N sc t e = true → (∀ i ∈ T.ix t, ∀ x, N[i]? = some x → X.fn x = true ∨ X.env.scope.names.lookup x = some .local) → PG X e (gT K t)
  | .n i, e, h, hf => by
    cases e with
    | Name x pos =>
      simp only [mT, Bool.and_eq_true, decide_eq_true_eq] at h
      obtain ⟨⟨h1, h2⟩, h3⟩ := h
      refine pg_name (by rw [hN]; exact nd) (by rw [hN]; exact h1) ?_ (hf i (by simp [T.ix]) x h1)
      rw [hs]
      unfold locC at h2
      unfold L2.Loc
      split at h2
      · exact .inl (by assumption)
      · exact .inr (by assumption)
      · cases h2
    | _ => cases h
  | .t ts, e, h, hf => by
    cases e with
    | Tuple es k pos =>
      have h : mTs N sc ts es = true := h
      simp only [gT]
      rw [← hK]
      obtain ⟨h1, h2⟩ := mTs_each (env := X.env) h
      exact pg_tup hc (by rw [hK]; exact pgTs hK hN hs nd hc ts es h (by simpa [T.ix] using hf)) h1 h2
    | _ => cases h
theorem pgTs {X : L2.Cx} {N : List Str} {sc : Scope} (hK : X.K = K) (hN : X.N = N) (hs : X.env.scope = sc) (nd : N.Nodup) (hc : X.calm = true) : ∀ (ts : List T) (es : List Expr), mTs N sc ts es = true → (∀ i ∈ T.ixL ts, ∀ x, N[i]? = some x → X.fn x = true ∨ X.env.scope.names.lookup x = some .local) → PGs X es (gTs K ts)
  | [], [], _, _ => pgs_nil
  | u :: us, e :: es, h, hf => by
    simp only [mTs, Bool.and_eq_true] at h
    simp only [gTs]
    exact pgs_cons (pgT hK hN hs nd hc u e h.1 fun i hi => hf i (by simp [T.ixL, hi])) (pgTs hK hN hs nd hc us es h.2 fun i hi => hf i (by simp [T.ixL, hi])) (by rw [noStar h.1]; rfl)
  | [], _ :: _, h, _ => by cases h
  | _ :: _, [], h, _ => by cases h
end
/-- slots, but for those that J names -/
def RepJ (K : PySem.W.Frag) (M : Names) (v : Vw) (J : Nat → Prop) (e : En) (σ : St) : Prop := e.length = σ.length ∧ ∀ (i : Nat) w, e[i]? = some (some w) → J i ∨ ∃ y, σ[i]? = some (some y) ∧ RepW K M v w y
theorem RepJ.set {v : Vw} {J : Nat → Prop} {e : En} {σ : St} {i : Nat} {w : W} {y : V} (h : RepJ K M v J e σ) (hi : i < e.length) (r : RepW K M v w y) : RepJ K M v (fun k => J k ∧ k ≠ i) (e.set i (some w)) (σ.set i (some y)) := by
  refine ⟨by simp [h.1], fun k u hk => ?_⟩
  by_cases hki : k = i
  · subst hki
    rw [List.getElem?_set_self hi] at hk
    cases hk
    exact .inr ⟨y, by rw [List.getElem?_set_self (by rw [← h.1]; exact hi)], r⟩
  · rw [List.getElem?_set_ne (Ne.symm hki)] at hk
    rcases h.2 k u hk with z | ⟨z, h1, h2⟩
    · exact .inl ⟨z, hki⟩
    · exact .inr ⟨z, by rw [List.getElem?_set_ne (Ne.symm hki)]; exact h1, h2⟩
theorem RepJ.imp {v : Vw} {J J' : Nat → Prop} {e : En} {σ : St} (h : RepJ K M v J e σ) (hj : ∀ k, J k → J' k) : RepJ K M v J' e σ := ⟨h.1, fun i w hi => (h.2 i w hi).imp (hj i) id⟩
theorem RepE.ofJ {v : Vw} {J : Nat → Prop} {e : En} {σ : St} (h : RepJ K M v J e σ) (hj : ∀ k, ¬ J k) : RepE K M v e σ := ⟨h.1, fun i w hi => (h.2 i w hi).resolve_left (hj i)⟩
theorem RepE.toJ {v : Vw} {J : Nat → Prop} {e : En} {σ : St} (h : RepE K M v e σ) : RepJ K M v J e σ := ⟨h.1, fun i w hi => .inr (h.2 i w hi)⟩
/-- off the slots l two states are the same -/
def Off (l : List Nat) (σ σ' : St) : Prop := σ'.length = σ.length ∧ ∀ k, k ∉ l → σ'[k]? = σ[k]?
theorem Off.refl (l : List Nat) (σ : St) : Off l σ σ := ⟨rfl, fun _ _ => rfl⟩
theorem Off.trans {l : List Nat} {a b c : St} (x : Off l a b) (y : Off l b c) : Off l a c := ⟨y.1.trans x.1, fun k h => (y.2 k h).trans (x.2 k h)⟩
theorem Off.mono {l m : List Nat} {a b : St} (x : Off l a b) (h : ∀ k ∈ l, k ∈ m) : Off m a b := ⟨x.1, fun k hk => x.2 k fun z => hk (h k z)⟩
theorem off_wipe : ∀ {l : List Nat} {a b : St}, Off l a b → L2.wipe b l = L2.wipe a l := by
  have key : ∀ (l : List Nat) (a : St) (k : Nat), (L2.wipe a l)[k]? = if k ∈ l then (if k < a.length then some none else none) else a[k]? := by
    intro l
    induction l with
    | nil => intro a k; simp [L2.wipe]
    | cons i l ih =>
      intro a k
      simp only [L2.wipe]
      by_cases hk : k = i
      · subst hk
        rw [List.getElem?_set]
        simp [wipe_length]
      · rw [List.getElem?_set_ne (Ne.symm hk), ih]
        simp [hk]
  intro l a b h
  apply List.ext_getElem?
  intro k
  rw [key, key, h.1]
  by_cases hk : k ∈ l
  · simp [hk]
  · simp [hk, h.2 k hk]
theorem put_len : ∀ (ts : List T) (ws : List W) (e e' : En), T.putL ts ws e = some e' → ws.length = ts.length
  | [], ws, e, e', h => by
    cases ws with
    | nil => rfl
    | cons _ _ => cases h
  | u :: us, ws, e, e', h => by
    cases ws with
    | nil => cases h
    | cons w ws =>
      simp only [T.putL] at h
      obtain ⟨e1, h1, h2⟩ := Option.bind_eq_some_iff.mp h
      simp [put_len us ws e1 e' h2]
mutual
theorem put_T {v : Vw} {Q : St → Hp → Prop} : ∀ (t : T) (w : W) (y : V) (e e' : En) (σ : St) (J : Nat → Prop), T.put t w e = some e' → RepW K M v w y → RepJ K M v J e σ →
    (∀ σ', RepJ K M v (fun k => J k ∧ k ∉ T.ix t) e' σ' → Off (T.ix t) σ σ' → Q σ' v.H) → gT K t y σ v.H Q
  | .n i, w, y, e, e', σ, J, h, r, rj, q => by
    simp only [T.put] at h
    split at h
    · rename_i hi
      cases h
      refine q _ ((rj.set hi r).imp fun k hk => ⟨hk.1, by simpa [T.ix] using hk.2⟩) ⟨by simp, fun k hk => ?_⟩
      rw [List.getElem?_set_ne (by simpa [T.ix, eq_comm] using hk)]
    · cases h
  | .t ts, w, y, e, e', σ, J, h, r, rj, q => by
    simp only [T.put] at h
    split at h
    · rename_i l
      simp only [RepW, Rep] at r
      obtain ⟨a, xs, rfl, t, rl⟩ := r
      have hl := put_len ts (l.map W.d) e e' h
      refine ⟨a, xs, rfl, t.sq, by rw [rl.len]; simpa using hl, ?_⟩
      exact put_Ts ts (l.map W.d) xs e e' σ J h (RepWs.ofL rl) rj (by simpa [T.ix] using q)
    · cases h
theorem put_Ts {v : Vw} {Q : St → Hp → Prop} : ∀ (ts : List T) (ws : List W) (ys : List V) (e e' : En) (σ : St) (J : Nat → Prop), T.putL ts ws e = some e' → RepWs K M v ws ys → RepJ K M v J e σ →
    (∀ σ', RepJ K M v (fun k => J k ∧ k ∉ T.ixL ts) e' σ' → Off (T.ixL ts) σ σ' → Q σ' v.H) → gTs K ts ys σ v.H Q
  | [], ws, ys, e, e', σ, J, h, r, rj, q => by
    cases ws with
    | nil =>
      cases h
      cases r
      exact ⟨rfl, q σ (rj.imp fun k hk => ⟨hk, by simp [T.ixL]⟩) (Off.refl _ _)⟩
    | cons _ _ => cases h
  | u :: us, ws, ys, e, e', σ, J, h, r, rj, q => by
    cases ws with
    | nil => cases h
    | cons w ws =>
      simp only [T.putL] at h
      obtain ⟨e1, h1, h2⟩ := Option.bind_eq_some_iff.mp h
      obtain ⟨y, ys', rfl, r1, r2⟩ := r
      refine ⟨y, ys', rfl, ?_⟩
      refine put_T u w y e e1 σ J h1 r1 rj fun σ1 rj1 o1 => ?_
      refine put_Ts us ws ys' e1 e' σ1 _ h2 r2 rj1 fun σ2 rj2 o2 => ?_
      refine q σ2 (rj2.imp fun k hk => ⟨hk.1.1, by simp only [T.ixL, List.mem_append, not_or]; exact ⟨hk.1.2, hk.2⟩⟩) ?_
      exact (o1.mono fun k hk => by simp [T.ixL, hk]).trans (o2.mono fun k hk => by simp [T.ixL, hk])
end
/-- what a turn gives -/
def RepTV (K : PySem.W.Frag) (M : Names) (v : Vw) : TV → V → Prop
  | .one w, y => RepW K M v w y
  | .many l, y => ∃ a xs, y = .ref a ∧ SqT K v.H a xs ∧ RepWs K M v l xs
theorem put_TV {v : Vw} {Q : St → Hp → Prop} {t : T} {tv : TV} {y : V} {e e' : En} {σ : St} {J : Nat → Prop} (h : TV.put t tv e = some e') (r : RepTV K M v tv y) (rj : RepJ K M v J e σ)
    (q : ∀ σ', RepJ K M v (fun k => J k ∧ k ∉ T.ix t) e' σ' → Off (T.ix t) σ σ' → Q σ' v.H) : gT K t y σ v.H Q := by
  cases tv with
  | one w => exact put_T t w y e e' σ J h r rj q
  | many l =>
    cases t with
    | n i => cases h
    | t ts =>
      obtain ⟨a, xs, rfl, tq, rl⟩ := r
      have hl := put_len ts l e e' h
      exact ⟨a, xs, rfl, tq, by rw [rl.len]; exact hl, put_Ts ts l xs e e' σ J h rl rj (by simpa [T.ix] using q)⟩

/-! ### walks -/
def WIx (X : L2.Cx) (tg pe : Expr) : TI := fun σ H R => ∀ (pins : List (Addr × Obj)) (s : Shared), Inv X pins σ H s → wpAny (model X.prog X.w) X.A (eval pe X.env) (fun v s1 => wpAny (model X.prog X.w) X.A (pyIter v) (PIE X pins σ tg R) X.xe s1) X.xe s
theorem piW {X : L2.Cx} {tg pe : Expr} : PI X tg pe (WIx X tg pe) := ⟨fun pins s σ H R I h => h pins s I⟩
theorem PIw {X : L2.Cx} {tg pe : Expr} {wi : TI} (h : PI X tg pe wi) {σ : St} {H : Hp} {R : L2.It → Hp → Prop} (q : wi σ H R) : WIx X tg pe σ H R := fun pins s I => h.run pins s σ H R I q
/-- a walk's turns, known ahead -/
structure Walk (K : PySem.W.Frag) (M : Names) (J : L2.It) (v1 : Vw) (tvs : List TV) (g : Guard) : Prop where
  go : ∀ (v : Vw) (S : Store) (i : Nat) (tv : TV), Nx v1 v → Sim K M v S → Guard.ok S g = true → tvs[i]? = some tv → J.go i v.H ∧ ∀ x H', J.yld i v.H x H' → ∃ v', v'.H = H' ∧ Nx v v' ∧ Sim K M v' S ∧ RepTV K M v' tv x
  stop : ∀ (v : Vw) (S : Store) (i : Nat), Nx v1 v → Sim K M v S → Guard.ok S g = true → tvs.length ≤ i → J.stop i v.H
def iAny (K : PySem.W.Frag) (te : TE) : TI := fun σ H R => te σ H fun x H1 => (∃ a xs, x = .ref a ∧ SqL K H1 a xs ∧ R (Itl K a) H1) ∨ (∃ a xs, x = .ref a ∧ SqT K H1 a xs ∧ R (Itt K a) H1) ∨ ∃ t, x = .str t ∧ R (Its t) H1
theorem pi_any {X : L2.Cx} {tg l : Expr} {tl : TE} (hl : PE X l tl) : PI X tg l (iAny X.K tl) := by
  refine ⟨fun pins s σ H R I h => ?_⟩
  refine thn (hl.run pins s σ H _ I h) fun v s1 ⟨x, H1, I1, r1, q1⟩ => ?_
  rcases q1 with ⟨a, xs, rfl, hq, q⟩ | ⟨a, xs, rfl, hq, q⟩ | ⟨t, rfl, q⟩
  · cases r1
    obtain ⟨its, rv, p, hz⟩ := I1.list hq
    refine wpAny_pyIter_list p.isList ?_
    refine ⟨s1.heap.objs.size, [s1.heap.objs.size], _, _, H1, rfl, I1.kept (t' := s1.toks) fun b o e => Heap.get?_push_of_some _ e, turn_list a _, ⟨_, Heap.get?_push_size _ rfl, rfl, rfl⟩, fun b hb => ?_, q⟩
    have e : b = s1.heap.objs.size := by simpa using hb
    subst e
    exact I1.fpOk (Nat.le_refl _) (I1.hok.fresh (Nat.le_refl _))
  · cases r1
    obtain ⟨its, rv, p, hz⟩ := I1.tuple hq
    refine wpAny_pyIter_tuple (show s1.heap.IsTuple a its.toArray from p) ?_
    refine ⟨s1.heap.objs.size, [s1.heap.objs.size], _, _, H1, rfl, I1.kept (t' := s1.toks) fun b o e => Heap.get?_push_of_some _ e, turn_tuple a _, ⟨_, Heap.get?_push_size _ rfl, rfl, rfl⟩, fun b hb => ?_, q⟩
    have e : b = s1.heap.objs.size := by simpa using hb
    subst e
    exact I1.fpOk (Nat.le_refl _) (I1.hok.fresh (Nat.le_refl _))
  · obtain ⟨tk, rfl⟩ := r1
    cases ha : t.cps.all (· < 128)
    · exact wpAny_pyIter_wide ha (pi_one (tk := s1.toks) I1 _ (turn_str _ t tk "str_iterator" (.inr rfl)) ⟨_, Heap.get?_push_size _ rfl, rfl, rfl⟩ q)
    · exact wpAny_pyIter_ascii ha (pi_one (tk := s1.toks) I1 _ (turn_str _ t tk "str_ascii_iterator" (.inl rfl)) ⟨_, Heap.get?_push_size _ rfl, rfl, rfl⟩ q)
end
end Ev
end

section
set_option linter.all false
set_option autoImplicit false
/-! EvS11: what is walked. -/
namespace Ev
open PySem L2
section
variable {K : PySem.W.Frag} {M : Names}
section
variable (K M)
def SI (it : Ev.It) : Prop := ∀ {X : L2.Cx} {c : Ev.Cx} {N : List Str} {sc : Scope} {Wx : WX}, Ok K M X c N sc Wx → ∀ {tg pe : Expr}, mIt N sc it tg pe = true → ∀ {v : Vw} {S : Store} {e : En} {σ : St} {R : L2.It → Hp → Prop}, Sim K M v S → Fr K M X c v e σ →
  Post K M v (fun cls d H => Wx cls d σ H) (fun p _ v1 => ∀ J, Walk K M J v1 p.1 p.2 → R J v1.H) (dI c it e S) → WIx X tg pe σ v.H R
end
theorem walk_str {v1 : Vw} {s : List Char} : Walk K M (Its (tx s)) v1 ((s.map fun c => W.d (.str [c])).map TV.one) [] where
  go := fun v S i tv n sim _ h => by
    rw [List.getElem?_map, List.getElem?_map] at h
    cases hc : s[i]? with
    | none => rw [hc] at h; cases h
    | some ch =>
      rw [hc] at h
      cases h
      have hl := getX hc
      have hcp : (tx s).cps[i]? = some ch.toNat := by
        show ((s.map Char.toNat).toArray)[i]? = _
        simp [hc]
      refine ⟨by show i < (s.map Char.toNat).toArray.size; simpa using hl, fun x H' hy => ?_⟩
      obtain ⟨rfl, k, h1, rfl⟩ := hy
      rw [hcp] at h1
      cases h1
      refine ⟨v, rfl, Nx.refl v, sim, ?_⟩
      simp only [RepTV, RepW, Rep]
      rfl
  stop := fun v S i n sim _ h => by
    show (s.map Char.toNat).toArray.size ≤ i
    simpa using h
theorem walk_tup {v1 : Vw} {a : Addr} {l : List D} {xs : List V} (t : TupAt K v1 a xs) (r : RepL K M v1 l xs) : Walk K M (Itt K a) v1 ((l.map W.d).map TV.one) [] where
  go := fun v S i tv n sim _ h => by
    rw [List.getElem?_map] at h
    cases hc : (l.map W.d)[i]? with
    | none => rw [hc] at h; cases h
    | some w =>
      rw [hc] at h
      cases h
      obtain ⟨y, hy, ry⟩ := (RepWs.ofL (RepL.mono n _ _ r)).get hc
      have q := (t.mono n).sq
      exact ⟨⟨xs, y, q, hy⟩, fun x H' ⟨e, hx⟩ => ⟨v, e.symm, Nx.refl v, sim, by rw [hx xs q] at hy; cases hy; exact ry⟩⟩
  stop := fun v S i n sim _ h => ⟨xs, (t.mono n).sq, by rw [r.len]; simpa using h⟩
/-- the list that a guard names -/
theorem guard_lst {v1 v : Vw} {S : Store} {m : Nat} {l : List W} {g : Guard} (hm : m < v1.n) (n : Nx v1 v) (sim : Sim K M v S) (h : Guard.ok S ((m, l) :: g) = true) : ∃ xs, SqL K v.H (v1.ρ m) xs ∧ RepWs K M v l xs := by
  simp only [Guard.ok, Bool.and_eq_true, Bool.or_eq_true, decide_eq_true_eq] at h
  rcases h.1 with e | e
  · obtain ⟨xs, e1, r⟩ := sim.ob m _ e
    rw [n.ρ m hm] at e1
    exact ⟨xs, .inl (.inl e1), r⟩
  · obtain ⟨o, xs, e1, r⟩ := sim.ob m _ e
    rw [n.ρ m hm] at e1
    exact ⟨xs, .inl (.inr ⟨o, e1⟩), r⟩
theorem walk_lst {v1 : Vw} {m : Nat} {l : List W} (hm : m < v1.n) : Walk K M (Itl K (v1.ρ m)) v1 (l.map TV.one) [(m, l)] where
  go := fun v S i tv n sim g h => by
    rw [List.getElem?_map] at h
    cases hc : l[i]? with
    | none => rw [hc] at h; cases h
    | some w =>
      rw [hc] at h
      cases h
      obtain ⟨xs, q, r⟩ := guard_lst hm n sim g
      obtain ⟨y, hy, ry⟩ := r.get hc
      exact ⟨⟨xs, y, q, hy⟩, fun x H' ⟨e, hx⟩ => ⟨v, e.symm, Nx.refl v, sim, by rw [hx xs q] at hy; cases hy; exact ry⟩⟩
  stop := fun v S i n sim g h => by
    obtain ⟨xs, q, r⟩ := guard_lst hm n sim g
    exact ⟨xs, q, by rw [r.len]; simpa using h⟩
theorem walk_rng {v1 : Vw} {lo : Int} {k : Nat} : Walk K M (Itr lo k) v1 (rangeW lo k) [] where
  go := fun v S i tv n sim _ h => by
    have hi := getX h
    have hi' : i < k := by simpa [rangeW] using hi
    simp only [rangeW, List.getElem?_map] at h
    rw [List.getElem?_range hi'] at h
    cases h
    refine ⟨hi', fun x H' ⟨e, hx⟩ => ⟨v, e.symm, Nx.refl v, sim, ?_⟩⟩
    simp only [RepTV, RepW, Rep]
    exact hx
  stop := fun v S i n sim _ h => by
    show k ≤ i
    simpa [rangeW] using h
theorem walk_rev {v1 : Vw} {j : Int} : Walk K M (Itc (0 + (((j - 0).toNat : Nat) : Int) - 1) (-1) (j - 0).toNat) v1 (rangeW 0 j.toNat).reverse [] where
  go := fun v S i tv n sim _ h => by
    have hi := getX h
    have hi' : i < j.toNat := by simpa [rangeW] using hi
    have hl : (rangeW 0 j.toNat).length = j.toNat := by simp [rangeW]
    rw [List.getElem?_reverse (by rw [hl]; exact hi'), hl] at h
    have hk : j.toNat - 1 - i < j.toNat := by omega
    simp only [rangeW, List.getElem?_map] at h
    rw [List.getElem?_range hk] at h
    cases h
    refine ⟨by show i < (j - 0).toNat; simpa using hi', fun x H' ⟨e, hx⟩ => ⟨v, e.symm, Nx.refl v, sim, ?_⟩⟩
    simp only [RepTV, RepW, Rep]
    rw [hx]
    congr 1
    simp
    omega
  stop := fun v S i n sim _ h => by
    show (j - 0).toNat ≤ i
    simpa [rangeW] using h
theorem sI_of {x : E} (hx : SE K M x) : SI K M (.of x) := by
  intro X c N sc Wx ok tg pe hm v S e σ R sim fr h
  simp only [mIt, Bool.and_eq_true] at hm
  simp only [dI] at h
  refine PIw (pi_any (tl := WEx X pe) peW) ?_
  refine hx ok hm.2 hm.1 sim fr (h.bind.imp fun w S1 v1 n1 s1 h1 y ry => ?_)
  rw [ok.hK]
  split at h1
  · rename_i l g e1
    have h2 := h1.now s1
    cases w with
    | d d =>
      cases d <;> simp only [walkW] at e1 <;> first | (cases e1; done) | skip
      · cases e1
        simp only [RepW, Rep] at ry
        exact .inr (.inr ⟨_, ry, h2 _ walk_str⟩)
      · cases e1
        simp only [RepW, Rep] at ry
        obtain ⟨a, xs, rfl, t, r⟩ := ry
        exact .inr (.inl ⟨a, xs, rfl, t.sq, h2 _ (walk_tup t r)⟩)
    | r m =>
      obtain ⟨hm', rfl⟩ := ry
      simp only [walkW] at e1
      split at e1
      · rename_i l' e2
        cases e1
        obtain ⟨xs, e3, r⟩ := s1.ob m _ e2
        exact .inl ⟨_, xs, rfl, .inl (.inl e3), h2 _ (walk_lst hm')⟩
      · rename_i l' e2
        cases e1
        obtain ⟨o, xs, e3, r⟩ := s1.ob m _ e2
        exact .inl ⟨_, xs, rfl, .inl (.inr ⟨o, e3⟩), h2 _ (walk_lst hm')⟩
      · cases e1
  · exact h1.elim
theorem b62 {i : Int} (h : B62 i = true) : -(2 ^ 62) ≤ i ∧ i < 2 ^ 62 := by
  simp only [B62, Bool.and_eq_true, decide_eq_true_eq] at h
  exact h
theorem sI_rng1 {a : E} (ha : SE K M a) : SI K M (.rng1 a) := by
  intro X c N sc Wx ok tg pe hm v S e σ R sim fr h
  simp only [mIt] at hm
  simp only [dI] at h
  split at hm
  · rename_i x p b pos
    simp only [Bool.and_eq_true, decide_eq_true_eq] at hm
    obtain ⟨⟨⟨e0, g0⟩, g1⟩, g2⟩ := hm
    have e0 : x = ("range" : Str) := e0
    subst e0
    have hg : Gl X "range" := ok.gl g0
    refine PIw (pi_range1 hg (ok.blt "range" (by decide)) (pa_cons (te := WEx X b) peW pa_nil (starE g1)) (starE g1)) ?_
    refine ha ok g2 g1 sim fr (h.bind.imp fun w S1 v1 n1 s1 h1 y ry => ?_)
    split at h1
    · rename_i i
      split at h1
      · rename_i hb
        simp only [RepW, Rep] at ry
        subst ry
        exact ⟨i, rfl, (b62 hb).1, (b62 hb).2, h1.now s1 _ walk_rng⟩
      · exact h1.elim
    · exact h1.elim
  · cases hm
theorem sI_rng2 {a b : E} (ha : SE K M a) (hb : SE K M b) : SI K M (.rng2 a b) := by
  intro X c N sc Wx ok tg pe hm v S e σ R sim fr h
  simp only [mIt] at hm
  simp only [dI] at h
  split at hm
  · rename_i x p p1 p2 pos
    simp only [Bool.and_eq_true, decide_eq_true_eq] at hm
    obtain ⟨⟨⟨⟨⟨e0, g0⟩, g1⟩, g2⟩, g3⟩, g4⟩ := hm
    have e0 : x = ("range" : Str) := e0
    subst e0
    have hg : Gl X "range" := ok.gl g0
    refine PIw (pi_range2 hg (ok.blt "range" (by decide)) (pa_cons (te := WEx X p1) peW (pa_cons (te := WEx X p2) peW pa_nil (starE g2)) (starE g1)) (by rw [starE g1, starE g2]; rfl) (starE g2)) ?_
    refine ha ok g3 g1 sim fr (h.bind.imp fun w S1 v1 n1 s1 h1 y ry => ?_)
    refine hb ok g4 g2 s1 (fr.mono n1) (h1.bind.imp fun u S2 v2 n2 s2 h2 z rz => ?_)
    split at h2
    · rename_i i j
      split at h2
      · rename_i hbb
        simp only [Bool.and_eq_true] at hbb
        simp only [RepW, Rep] at ry rz
        subst ry rz
        exact ⟨i, j, rfl, ⟨(b62 hbb.1).1, (b62 hbb.1).2, (b62 hbb.2).1, (b62 hbb.2).2⟩, h2.now s2 _ walk_rng⟩
      · exact h2.elim
    · exact h2.elim
  · cases hm
theorem sI_revr {a : E} (ha : SE K M a) : SI K M (.revr a) := by
  intro X c N sc Wx ok tg pe hm v S e σ R sim fr h
  simp only [mIt] at hm
  simp only [dI] at h
  split at hm
  · rename_i y q x p b pos pos'
    simp only [Bool.and_eq_true, decide_eq_true_eq] at hm
    obtain ⟨⟨⟨⟨⟨e1, g'⟩, e0⟩, g0⟩, g1⟩, g2⟩ := hm
    have e0 : x = ("range" : Str) := e0
    have e1 : y = ("reversed" : Str) := e1
    subst e0 e1
    have hg : Gl X "range" := ok.gl g0
    have hg' : Gl X "reversed" := ok.gl g'
    refine PIw (pi_revR hg' (ok.blt "reversed" (by decide)) (prg_1 hg (ok.blt "range" (by decide)) (peW (e := b)) (starE g1)) (starE rfl)) ?_
    refine ha ok g2 g1 sim fr (h.bind.imp fun w S1 v1 n1 s1 h1 y ry => ?_)
    split at h1
    · rename_i i
      split at h1
      · rename_i hb
        simp only [RepW, Rep] at ry
        subst ry
        exact ⟨i, rfl, by decide, by decide, (b62 hb).1, (b62 hb).2, h1.now s1 _ walk_rev⟩
      · exact h1.elim
    · exact h1.elim
  · cases hm

/-! ### pairs -/
theorem pair_tup {v : Vw} {S : Store} {T : Addr} {x y : V} {a b : W} (sim : Sim K M v S) (hT : v.H T = none) (ra : RepW K M v a x) (rb : RepW K M v b y) :
    ∃ v', v'.H = upd v.H T (.tup [x, y]) ∧ Nx v v' ∧ Sim K M v' S ∧ RepTV K M v' (.many [a, b]) (.ref T) := by
  have n := Nx.laid (o := .tup [x, y]) hT
  exact ⟨v.put T (.tup [x, y]), rfl, n, sim.laid hT, T, [x, y], rfl, .inl (.inl upd_same), x, [y], rfl, ra.mono n, y, [], rfl, rb.mono n, rfl⟩
theorem enum_get {l : List W} {i : Nat} {tv : TV} (h : (enumW l)[i]? = some tv) : ∃ w, l[i]? = some w ∧ tv = .many [.d (.int (i : Nat)), w] := by
  simp only [enumW, List.getElem?_map, List.getElem?_zipIdx] at h
  cases hc : l[i]? with
  | none => rw [hc] at h; cases h
  | some w =>
    rw [hc] at h
    cases h
    exact ⟨w, rfl, by simp⟩
theorem enum_len {l : List W} : (enumW l).length = l.length := by simp [enumW]
theorem walk_enumL {v1 : Vw} {m : Nat} {l : List W} (hm : m < v1.n) : Walk K M (Ite K (v1.ρ m)) v1 (enumW l) [(m, l)] where
  go := fun v S i tv n sim g h => by
    obtain ⟨w, hw, rfl⟩ := enum_get h
    obtain ⟨xs, q, r⟩ := guard_lst hm n sim g
    obtain ⟨y, hy, ry⟩ := r.get hw
    refine ⟨⟨xs, y, q, hy⟩, fun x H' ⟨T, z, e1, e2, e3, e4⟩ => ?_⟩
    subst e1 e3
    have := e4 xs q
    rw [hy] at this
    cases this
    exact pair_tup sim e2 (by simp [RepW, Rep]) ry
  stop := fun v S i n sim g h => by
    obtain ⟨xs, q, r⟩ := guard_lst hm n sim g
    exact ⟨xs, q, by rw [r.len]; rw [enum_len] at h; exact h⟩
theorem walk_enumT {v1 : Vw} {a : Addr} {l : List D} {xs : List V} (t : TupAt K v1 a xs) (r : RepL K M v1 l xs) : Walk K M (ItEt K a) v1 (enumW (l.map W.d)) [] where
  go := fun v S i tv n sim _ h => by
    obtain ⟨w, hw, rfl⟩ := enum_get h
    obtain ⟨y, hy, ry⟩ := (RepWs.ofL (RepL.mono n _ _ r)).get hw
    have q := (t.mono n).sq
    refine ⟨⟨xs, y, q, hy⟩, fun x H' ⟨T, z, e1, e2, e3, e4⟩ => ?_⟩
    subst e1 e3
    have := e4 xs q
    rw [hy] at this
    cases this
    exact pair_tup sim e2 (by simp [RepW, Rep]) ry
  stop := fun v S i n sim _ h => ⟨xs, (t.mono n).sq, by rw [r.len]; rw [enum_len] at h; simpa using h⟩
theorem zip_get {l m : List W} {i : Nat} {tv : TV} (h : (zipW l m)[i]? = some tv) : ∃ a b, l[i]? = some a ∧ m[i]? = some b ∧ tv = .many [a, b] := by
  simp only [zipW, List.getElem?_map] at h
  cases hc : (l.zip m)[i]? with
  | none => rw [hc] at h; cases h
  | some p =>
    rw [hc] at h
    cases h
    obtain ⟨h1, h2⟩ := List.getElem?_zip_eq_some.mp hc
    exact ⟨p.1, p.2, h1, h2, rfl⟩
theorem zip_len {l m : List W} : (zipW l m).length = min l.length m.length := by simp [zipW]
theorem guard_app {S : Store} {g h : Guard} (x : Guard.ok S (g ++ h) = true) : Guard.ok S g = true ∧ Guard.ok S h = true := by
  induction g with
  | nil => exact ⟨rfl, x⟩
  | cons p g ih =>
    obtain ⟨m, l⟩ := p
    simp only [List.cons_append, Guard.ok, Bool.and_eq_true] at x ⊢
    exact ⟨⟨x.1, (ih x.2).1⟩, (ih x.2).2⟩
theorem walk_zipL {v1 : Vw} {m k : Nat} {l l' : List W} (hm : m < v1.n) (hk : k < v1.n) : Walk K M (Itz K (v1.ρ m) (v1.ρ k)) v1 (zipW l l') ([(m, l)] ++ [(k, l')]) where
  go := fun v S i tv n sim g h => by
    obtain ⟨w, u, hw, hu, rfl⟩ := zip_get h
    obtain ⟨g1, g2⟩ := guard_app g
    obtain ⟨xs, q, r⟩ := guard_lst hm n sim g1
    obtain ⟨xs', q', r'⟩ := guard_lst hk n sim g2
    obtain ⟨y, hy, ry⟩ := r.get hw
    obtain ⟨y', hy', ry'⟩ := r'.get hu
    refine ⟨⟨xs, xs', y, y', q, q', hy, hy'⟩, fun x H' ⟨T, z, z', e1, e2, e3, e4, e5⟩ => ?_⟩
    subst e1 e3
    have h1 := e4 xs q
    rw [hy] at h1
    cases h1
    have h2 := e5 xs' q'
    rw [hy'] at h2
    cases h2
    exact pair_tup sim e2 ry ry'
  stop := fun v S i n sim g h => by
    obtain ⟨g1, g2⟩ := guard_app g
    obtain ⟨xs, q, r⟩ := guard_lst hm n sim g1
    obtain ⟨xs', q', r'⟩ := guard_lst hk n sim g2
    refine ⟨xs, xs', q, q', ?_⟩
    rw [r.len, r'.len]
    rw [zip_len] at h
    omega
theorem walk_zipT {v1 : Vw} {a b : Addr} {l m : List D} {xs ys : List V} (t : TupAt K v1 a xs) (r : RepL K M v1 l xs) (t' : TupAt K v1 b ys) (r' : RepL K M v1 m ys) : Walk K M (RZ.ItzT K a b) v1 (zipW (l.map W.d) (m.map W.d)) ([] ++ []) where
  go := fun v S i tv n sim _ h => by
    obtain ⟨w, u, hw, hu, rfl⟩ := zip_get h
    obtain ⟨y, hy, ry⟩ := (RepWs.ofL (RepL.mono n _ _ r)).get hw
    obtain ⟨y', hy', ry'⟩ := (RepWs.ofL (RepL.mono n _ _ r')).get hu
    have q := (t.mono n).sq
    have q' := (t'.mono n).sq
    refine ⟨⟨xs, ys, y, y', q, q', hy, hy'⟩, fun x H' ⟨T, z, z', e1, e2, e3, e4, e5⟩ => ?_⟩
    subst e1 e3
    have h1 := e4 xs q
    rw [hy] at h1
    cases h1
    have h2 := e5 ys q'
    rw [hy'] at h2
    cases h2
    exact pair_tup sim e2 ry ry'
  stop := fun v S i n sim _ h => by
    refine ⟨xs, ys, (t.mono n).sq, (t'.mono n).sq, ?_⟩
    rw [r.len, r'.len]
    rw [zip_len] at h
    simp only [List.length_map] at h
    omega
/-- a tuple or a list -/
theorem pair_of {v : Vw} {S : Store} {w : W} {y : V} {b : Bool} {l : List W} {g : Guard} (s : Sim K M v S) (r : RepW K M v w y) (h : pairW w S = some (b, l, g)) :
    (b = true ∧ ∃ a xs m, y = .ref a ∧ TupAt K v a xs ∧ RepL K M v m xs ∧ l = m.map W.d ∧ g = []) ∨ (b = false ∧ ∃ m xs, m < v.n ∧ y = .ref (v.ρ m) ∧ SqL K v.H (v.ρ m) xs ∧ g = [(m, l)]) := by
  cases w with
  | d d =>
    cases d <;> simp only [pairW] at h <;> first | (cases h; done) | skip
    cases h
    simp only [RepW, Rep] at r
    obtain ⟨a, xs, rfl, t, r⟩ := r
    exact .inl ⟨rfl, a, xs, _, rfl, t, r, rfl, rfl⟩
  | r m =>
    obtain ⟨hm, rfl⟩ := r
    simp only [pairW] at h
    split at h
    · rename_i l' e2
      cases h
      obtain ⟨xs, e3, r⟩ := s.ob m _ e2
      exact .inr ⟨rfl, m, xs, hm, rfl, .inl (.inl e3), rfl⟩
    · rename_i l' e2
      cases h
      obtain ⟨o, xs, e3, r⟩ := s.ob m _ e2
      exact .inr ⟨rfl, m, xs, hm, rfl, .inl (.inr ⟨o, e3⟩), rfl⟩
    · cases h
theorem sI_enum {x : E} (hx : SE K M x) : SI K M (.enum x) := by
  intro X c N sc Wx ok tg pe hm v S e σ R sim fr h
  simp only [mIt] at hm
  simp only [dI] at h
  split at hm
  · rename_i es k tp y p b pos
    simp only [Bool.and_eq_true, decide_eq_true_eq] at hm
    obtain ⟨⟨⟨e0, g0⟩, g1⟩, g2⟩ := hm
    subst e0
    refine PIw (pi_enumT rfl (ok.gl g0) (ok.blt "enumerate" (by decide)) (pa_cons (te := WEx X b) peW pa_nil (starE g1)) (starE g1)) ?_
    refine hx ok g2 g1 sim fr (h.bind.imp fun w S1 v1 n1 s1 h1 y ry => ?_)
    rw [ok.hK]
    split at h1
    · rename_i bb l g e1
      rcases pair_of s1 ry e1 with ⟨_, a, xs, m, rfl, t, r, rfl, rfl⟩ | ⟨_, m, xs, hm', rfl, q, rfl⟩
      · exact ⟨a, xs, rfl, .inr ⟨t.sq, h1.now s1 _ (walk_enumT t r)⟩⟩
      · exact ⟨_, xs, rfl, .inl ⟨q, h1.now s1 _ (walk_enumL hm')⟩⟩
    · exact h1.elim
  · cases hm
theorem sI_zip {a b : E} (ha : SE K M a) (hb : SE K M b) : SI K M (.zip a b) := by
  intro X c N sc Wx ok tg pe hm v S e σ R sim fr h
  simp only [mIt] at hm
  simp only [dI] at h
  split at hm
  · rename_i es k tp y p p1 p2 pos
    simp only [Bool.and_eq_true, decide_eq_true_eq] at hm
    obtain ⟨⟨⟨⟨⟨e0, g0⟩, g1⟩, g2⟩, g3⟩, g4⟩ := hm
    have e0 : y = ("zip" : Str) := e0
    subst e0
    have hg : Gl X "zip" := ok.gl g0
    refine PIw (RZ.pi_zipA hg (ok.blt "zip" (by decide)) (pa_cons (te := WEx X p1) peW (pa_cons (te := WEx X p2) peW pa_nil (starE g2)) (starE g1)) (starE g1) (by rw [starE g2]; rfl)) ?_
    refine ha ok g3 g1 sim fr (h.bind.imp fun w S1 v1 n1 s1 h1 y ry => ?_)
    refine hb ok g4 g2 s1 (fr.mono n1) (h1.bind.imp fun u S2 v2 n2 s2 h2 z rz => ?_)
    rw [ok.hK]
    split at h2
    · rename_i p l g q m g' e1 e2
      split at h2
      · rename_i hpq
        subst hpq
        rcases pair_of s2 (ry.mono n2) e1 with ⟨hp, a, xs, l1, rfl, t, r, rfl, rfl⟩ | ⟨hp, k1, xs, hk1, rfl, q1, rfl⟩
        · rcases pair_of s2 rz e2 with ⟨hp', a', xs', l2, rfl, t', r', rfl, rfl⟩ | ⟨hp', k2, xs', hk2, rfl, q2, rfl⟩
          · exact ⟨a, a', xs, xs', rfl, .inr ⟨t.sq, t'.sq, h2.now s2 _ (walk_zipT t r t' r')⟩⟩
          · rw [hp] at hp'; cases hp'
        · rcases pair_of s2 rz e2 with ⟨hp', a', xs', l2, rfl, t', r', rfl, rfl⟩ | ⟨hp', k2, xs', hk2, rfl, q2, rfl⟩
          · rw [hp] at hp'; cases hp'
          · exact ⟨_, _, xs, xs', rfl, .inl ⟨q1, q2, h2.now s2 _ (walk_zipL hk1 hk2)⟩⟩
      · exact h2.elim
    · exact h2.elim
  · cases hm
end
end Ev
end

section
set_option linter.all false
set_option autoImplicit false
/-! EvS12: comprehensions. -/
namespace Ev
open PySem L2
section
variable {K : PySem.W.Frag} {M : Names}

theorem ok_blk {X : L2.Cx} {c : Ev.Cx} {N : List Str} {sc : Scope} {Wx : WX} (ok : Ok K M X c N sc Wx) (s : Shared) (H : Hp) (scope : Scope) (C : Addr) (cl : List (Str × Addr)) (fp : List Addr) :
    Ok K M (X.blk s H scope (compEnvC scope cl C X.env) fp) c N (relS scope sc) (fun _ _ _ _ => False) where
  hK := ok.hK
  hN := ok.hN
  hs := by
    show relS scope X.env.scope = _
    rw [ok.hs]
  nd := ok.nd
  tk := fun u s' ⟨a, B, sI, pins, σ, H, cls, d, e, I, nb, up, sky, na, os, ag, w⟩ => w.elim
  room := ok.room
  calm := ok.calm
  blt := ok.blt
  glob := ok.glob
  fldI := ok.fldI
  fldX := ok.fldX
  cm := ok.cm
  call := fun X' g => ok.call X' ⟨g.1, g.2, g.3, g.4, g.5, g.6⟩
  callG := ok.callG
  callM := ok.callM
  make := fun X' g => ok.make X' ⟨g.1, g.2, g.3, g.4, g.5, g.6⟩
  makeG := ok.makeG
  isx := ok.isx
  hot := fun X' g => ok.hot X' ⟨g.1, g.2, g.3, g.4, g.5, g.6, g.7⟩
  hotG := ok.hotG
  hotE := ok.hotE
  mkx := fun hc X' g => ok.mkx hc X' ⟨g.1, g.2, g.3, g.4, g.5, g.6⟩
  mkxG := ok.mkxG

/-! ### tests in a row -/
def WPx (X : L2.Cx) (l : List Expr) : TT := fun σ H Q => ∀ (pins : List (Addr × Obj)) (s : Shared), Inv X pins σ H s →
  wpAny (model X.prog X.w) X.A (forIn l true fun c r => if r = true then do let ok ← isTrue c X.env (eval c X.env); pure (ForInStep.yield ok) else pure (ForInStep.yield r)) (TP X pins σ Q) X.xe s
theorem ptsW {X : L2.Cx} {l : List Expr} : PTs X l (WPx X l) := ⟨fun pins s σ H Q I h => h pins s I⟩
theorem PTsw {X : L2.Cx} {l : List Expr} {tt : TT} (h : PTs X l tt) {σ : St} {H : Hp} {Q : Bool → Hp → Prop} (q : tt σ H Q) : WPx X l σ H Q := fun pins s I => h.run pins s σ H Q I q
section
variable (K M)
def STs (es : Es) : Prop := ∀ {X : L2.Cx} {c : Ev.Cx} {N : List Str} {sc : Scope} {Wx : WX}, Ok K M X c N sc Wx → ∀ {l : List Expr}, mEs N sc es l = true → l.length ≤ 1 → ∀ {v : Vw} {S : Store} {e : En} {σ : St} {Q : Bool → Hp → Prop}, Sim K M v S → Fr K M X c v e σ →
  Post K M v (fun cls d H => Wx cls d σ H) (fun b _ v' => Q b v'.H) (dTs c es e S) → WPx X l σ v.H Q
end
theorem sTs_nil : STs K M .nil := by
  intro X c N sc Wx ok l hm hl v S e σ Q sim fr h
  cases l with
  | nil => exact PTsw pts_nil (h.now sim)
  | cons _ _ => cases hm
theorem dTs_one (c : Ev.Cx) (x : E) (e : En) (S : Store) : dTs c (.cons x .nil) e S = dT c x e S := by
  simp only [dTs, dT]
  cases dX c x true e S with
  | ok w S1 =>
    simp only [R.bind_ok]
    cases w with
    | d d =>
      cases d <;> try rfl
      rename_i b
      cases b <;> rfl
    | r n => rfl
  | err x S1 => rfl
  | no => rfl
theorem sTs_cons {x : E} {r : Es} (hx : ST K M x) : STs K M (.cons x r) := by
  intro X c N sc Wx ok l hm hl v S e σ Q sim fr h
  cases l with
  | nil => cases hm
  | cons pe l =>
    cases l with
    | nil =>
      simp only [mEs, Bool.and_eq_true] at hm
      obtain ⟨⟨h1, h2⟩, h3⟩ := hm
      have : r = .nil := by
        cases r with
        | nil => rfl
        | cons _ _ => cases h3
        | star _ _ => cases h3
      subst this
      rw [dTs_one] at h
      exact PTsw (pts_one ptW) (hx ok h2 h1 sim fr h).2
    | cons _ _ => simp at hl
theorem sTs_star {x : E} {r : Es} : STs K M (.star x r) := by
  intro X c N sc Wx ok l hm hl v S e σ Q sim fr h
  exact h.elim

/-! ### the block -/
theorem wipe_get : ∀ (l : List Nat) (a : St) (k : Nat), (L2.wipe a l)[k]? = if k ∈ l then (if k < a.length then some none else none) else a[k]? := by
  intro l
  induction l with
  | nil => intro a k; simp [L2.wipe]
  | cons i l ih =>
    intro a k
    simp only [L2.wipe]
    by_cases hk : k = i
    · subst hk
      rw [List.getElem?_set]
      simp [wipe_length]
    · rw [List.getElem?_set_ne (Ne.symm hk), ih]
      simp [hk]
theorem wipe_wipe (l : List Nat) (a : St) : L2.wipe (L2.wipe a l) l = L2.wipe a l := by
  apply List.ext_getElem?
  intro k
  rw [wipe_get, wipe_get, wipe_length]
  split <;> rfl
theorem RepE.wiped {v : Vw} {e : En} {σ : St} (l : List Nat) (h : RepE K M v e σ) : RepJ K M v (fun k => k ∈ l) e (L2.wipe σ l) := by
  refine ⟨by rw [wipe_length]; exact h.1, fun i w hi => ?_⟩
  by_cases hl : i ∈ l
  · exact .inl hl
  · obtain ⟨y, h1, h2⟩ := h.2 i w hi
    exact .inr ⟨y, by rw [wipe_get, if_neg hl]; exact h1, h2⟩
theorem notFolded {e : Expr} {env : Env} (h : okE e = true) : ∀ x, foldedSetIterable e env x = pure x := by
  intro x
  cases e <;> first | rfl | (exact absurd h Bool.false_ne_true)
theorem upd_self {v : Vw} {D : Addr} {o : HO} (h : v.H D = some o) : v.H = upd (v.del D).H D o := by
  rw [upd_del]
  funext b
  by_cases hb : b = D
  · rw [hb, upd_same, h]
  · rw [upd_ne hb]
theorem lc_fn {X : L2.Cx} {N : List Str} {t : T} {s : Shared} {H : Hp} {scope : Scope} {C : Addr} {cl : List (Str × Addr)} {fp : List Addr} (h : ((T.ix t).all fun i => locC scope (N.getD i Str.empty)) = true) (hu : ∀ y ∈ scope.names, scope.names.lookup y.1 = some y.2) :
    ∀ i ∈ T.ix t, ∀ x, N[i]? = some x → (X.blk s H scope (compEnvC scope cl C X.env) fp).fn x = true ∨ (X.blk s H scope (compEnvC scope cl C X.env) fp).env.scope.names.lookup x = some .local := by
  intro i hi x hx
  have h1 := List.all_eq_true.mp h i hi
  have e : N.getD i Str.empty = x := by simp [List.getD, hx]
  rw [e] at h1
  unfold locC at h1
  show (scope.names.lookup x == some .cell) = true ∨ (relS scope X.env.scope).names.lookup x = some .local
  split at h1
  · rename_i e1
    right
    have key : ∀ (l : List (Str × NameKind)) (f : Str × NameKind → Str × NameKind), (∀ p, (f p).1 = p.1) → (∀ n, f (n, .local) = (n, .local)) → l.lookup x = some .local → (l.map f).lookup x = some .local := by
      intro l f f1 f2 hl
      induction l with
      | nil => cases hl
      | cons p l ih =>
        obtain ⟨n, k⟩ := p
        rw [List.map_cons]
        have hf := f1 (n, k)
        by_cases hn : x = n
        · subst hn
          simp at hl
          subst hl
          rw [f2]
          simp
        · have hb : (x == n) = false := by simpa using hn
          simp only [List.lookup, hb] at hl
          rcases hq : f (n, k) with ⟨n', k'⟩
          rw [hq] at hf
          simp only at hf
          subst hf
          simp only [List.lookup, hb]
          exact ih hl
    refine key _ _ (fun p => ?_) (fun n => ?_) e1
    · obtain ⟨n, k⟩ := p
      dsimp only
      split <;> rfl
    · rfl
  · rename_i e1
    left
    rw [e1]
    rfl
  · cases h1
def ttB (X : L2.Cx) (scope : Scope) (l : List Expr) : TT := fun σ H Q => ∀ s0 H0 C cl fp, WPx (X.blk s0 H0 scope (compEnvC scope cl C X.env) fp) l σ H Q
def teB (X : L2.Cx) (scope : Scope) (e : Expr) : TE := fun σ H Q => ∀ s0 H0 C cl fp, WEx (X.blk s0 H0 scope (compEnvC scope cl C X.env) fp) e σ H Q
/-- what the rules for comprehensions ask -/
structure LcGo (X : L2.Cx) (K : PySem.W.Frag) (N : List Str) (t : T) (tg' i e' : Expr) (l : List Expr) (scope : Scope) (σ : St) (H : Hp) (Q : VK) : Prop where
  calm : X.calm = true
  nd : X.N.Nodup
  blk : BlkOk X.N X.env.scope scope (ownOf N (T.ix t))
  pg : ∀ (s0 : Shared) (H0 : Hp) (C : Addr) (cl : List (Str × Addr)) (fp : List Addr), PG (X.blk s0 H0 scope (compEnvC scope cl C X.env) fp) tg' (gT K t)
  pt : ∀ (s0 : Shared) (H0 : Hp) (C : Addr) (cl : List (Str × Addr)) (fp : List Addr), PTs (X.blk s0 H0 scope (compEnvC scope cl C X.env) fp) l (ttB X scope l)
  pe : ∀ (s0 : Shared) (H0 : Hp) (C : Addr) (cl : List (Str × Addr)) (fp : List Addr), PE (X.blk s0 H0 scope (compEnvC scope cl C X.env) fp) e' (teB X scope e')
  fold : ∀ x, foldedSetIterable i X.env x = pure x
  go : tLc (WIx X tg' i) (gT K t) (ttB X scope l) (teB X scope e') ((ownOf N (T.ix t)).map (·.2)) σ H Q
theorem lc_go {elt : E} {t : T} {it : Ev.It} {ifs : Es} (hit : SI K M it) (he : SE K M elt) (hts : STs K M ifs) {X : L2.Cx} {c : Ev.Cx} {N : List Str} {sc : Scope} {Wx : WX} (ok : Ok K M X c N sc Wx) {tg' i e' : Expr} {l : List Expr} {a : Int} {scope : Scope} {pos : Pos}
    (hm : mE N sc (.lc elt t it ifs) (.ListComp e' [⟨tg', i, l, a⟩] scope pos) = true) {v : Vw} {S : Store} {e : En} {σ : St} {Q : VK} (sim : Sim K M v S) (fr : Fr K M X c v e σ)
    (h : Post K M v (fun cls d H => Wx cls d σ H) (fun ws _ v' => ∀ a xs, v'.H a = none → RepWs K M v' ws xs → xs.length ≤ sizeLine → Q (.ref a) (upd v'.H a (.lst xs))) (dL c (.lc elt t it ifs) e S)) : a = 0 ∧ LcGo X K N t tg' i e' l scope σ v.H Q := by
  simp only [mE, Bool.and_eq_true, decide_eq_true_eq] at hm
  obtain ⟨⟨⟨⟨⟨⟨⟨⟨⟨⟨rfl, g1⟩, g2⟩, g3⟩, g3'⟩, g4⟩, g5⟩, g6⟩, g7⟩, g8⟩, g9⟩ := hm
  simp only [dL] at h
  split at h
  · exact h.elim
  · rename_i hcm
    have hcm : c.calm = true := by simpa using hcm
    have hcx := ok.calm hcm
    have blk : BlkOk X.N X.env.scope scope (ownOf N (T.ix t)) := by rw [ok.hN, ok.hs]; exact blkOk_by g5
    have hvs : (ownOf N (T.ix t)).map (·.2) = T.ix t := by simp [ownOf, Function.comp_def]
    refine ⟨rfl, hcx, by rw [ok.hN]; exact ok.nd, blk, fun s0 H0 C cl fp => pgT (X := X.blk s0 H0 scope (compEnvC scope cl C X.env) fp) ok.hK ok.hN (ok_blk ok s0 H0 scope C cl fp).hs ok.nd hcx t tg' g7 (lc_fn g6 blk.uniq),
      fun s0 H0 C cl fp => ⟨fun pins s σ H Q I h => h s0 H0 C cl fp pins s I⟩, fun s0 H0 C cl fp => ⟨fun pins s σ H Q I h => h s0 H0 C cl fp pins s I⟩, notFolded g2, ?_⟩
    rw [hvs]
    refine hit ok g4 sim fr (h.bind.imp fun p S1 v1 n1 s1 h1 J wk => ?_)
    obtain ⟨tvs, g⟩ := p
    simp only at h1 wk
    generalize hf : (fun (tv : TV) (S : Store) => (match TV.put t tv e with
      | some e' => (dTs c ifs e' S).bind fun b S' => if b = true then (dX c elt false e' S').bind fun w S'' => R.ok (some w) S'' else R.ok none S'
      | none => R.no : R (Option W))) = f at h1
    intro D hD
    refine ⟨fun i m H => i ≤ tvs.length ∧ m = tvs.length - i ∧ ∃ (u : Vw) (S : Store) (acc : List W) (xs : List V), u.H D = none ∧ H = upd u.H D (.lst xs) ∧ Nx v1 u ∧ Sim K M u S ∧ RepWs K M u acc xs ∧ acc.length ≤ LINE ∧
      Post K M v1 (fun cls d H => Wx cls d σ H) (fun l _ v2 => ∀ a xs, v2.H a = none → RepWs K M v2 l xs → xs.length ≤ sizeLine → Q (.ref a) (upd v2.H a (.lst xs))) (lcLoop f g (tvs.drop i) acc S), ⟨tvs.length, Nat.zero_le _, rfl, v1, S1, [], [], hD, rfl, Nx.refl v1, s1, rfl, Nat.zero_le _, h1⟩, ?_⟩
    rintro i m H ⟨hi, rfl, u, S2, acc, xs, hu, rfl, nu, su, ra, hz, hp⟩
    have nD : Nx u (u.put D (.lst xs)) := Nx.laid hu
    have sD : Sim K M (u.put D (.lst xs)) S2 := su.laid hu
    have nlD : ¬ (u.put D (.lst xs)).live D := su.nl hu
    have hDD : (u.put D (.lst xs)).H D = some (.lst xs) := upd_same
    rcases Nat.lt_or_ge i tvs.length with hlt | hge
    · right
      have hd : tvs.drop i = tvs[i] :: tvs.drop (i + 1) := List.drop_eq_getElem_cons hlt
      rw [hd] at hp
      simp only [lcLoop] at hp
      split at hp
      · rename_i hg
        obtain ⟨hgo, hy⟩ := wk.go (u.put D (.lst xs)) S2 i tvs[i] (nu.trans nD) sD hg (List.getElem?_eq_getElem hlt)
        refine ⟨hgo, fun H' => i + 1 ≤ tvs.length ∧ tvs.length - i - 1 = tvs.length - (i + 1) ∧ ∃ (u : Vw) (S : Store) (acc : List W) (xs : List V), u.H D = none ∧ H' = upd u.H D (.lst xs) ∧ Nx v1 u ∧ Sim K M u S ∧ RepWs K M u acc xs ∧ acc.length ≤ LINE ∧
          Post K M v1 (fun cls d H => Wx cls d σ H) (fun l _ v2 => ∀ a xs, v2.H a = none → RepWs K M v2 l xs → xs.length ≤ sizeLine → Q (.ref a) (upd v2.H a (.lst xs))) (lcLoop f g (tvs.drop (i + 1)) acc S), fun H' q => ⟨tvs.length - i - 1, by omega, q⟩, fun x H' yy => ?_⟩
        obtain ⟨v2, rfl, n2, s2, r2⟩ := hy x H' yy
        have fe : f tvs[i] S2 = (match TV.put t tvs[i] e with
          | some e' => (dTs c ifs e' S2).bind fun b S' => if b = true then (dX c elt false e' S').bind fun w S'' => R.ok (some w) S'' else R.ok none S'
          | none => R.no : R (Option W)) := by rw [← hf]
        rw [fe] at hp
        cases hput : TV.put t tvs[i] e with
        | none => rw [hput] at hp; exact hp.elim
        | some e2 =>
          rw [hput] at hp
          simp only at hp
          have nv2 : Nx v v2 := n1.trans (nu.trans (nD.trans n2))
          have frE : RepE K M v2 e σ := fr.rep.mono nv2
          refine put_TV hput r2 (frE.wiped (T.ix t)) fun σ2 rj of => ?_
          have re2 : RepE K M v2 e2 σ2 := RepE.ofJ rj fun k hk => hk.2 hk.1
          refine ⟨by rw [off_wipe of, wipe_wipe], fun s0 H0 C cl fp => ?_⟩
          have okb := ok_blk ok s0 H0 scope C cl fp
          have frb : ∀ {w : Vw}, Nx v2 w → Fr K M (X.blk s0 H0 scope (compEnvC scope cl C X.env) fp) c w e2 σ2 := fun n => ⟨re2.mono n, fun x i hc => by rw [ok.cm hcm] at hc; cases hc⟩
          have l2 : ∀ {w : Vw}, Nx v2 w → w.H D = some (.lst xs) ∧ ¬ w.live D := fun n =>
            ⟨n.keep _ _ (n2.keep _ _ hDD nlD) (n2.notLive hDD nlD), n.notLive (n2.keep _ _ hDD nlD) (n2.notLive hDD nlD)⟩
          refine hts okb g9 g3' s2 (frb (Nx.refl v2)) ?_
          cases ht : dTs c ifs e2 S2 with
          | err x S3 => rw [ht] at hp; exact hp.elim
          | no => rw [ht] at hp; exact hp.elim
          | ok b S3 =>
            rw [ht] at hp
            simp only [R.bind_ok] at hp
            intro v3 n3 s3
            obtain ⟨d3, l3⟩ := l2 n3
            cases b with
            | false =>
              simp only [Bool.false_eq_true, if_false] at hp ⊢
              refine ⟨hlt, by omega, v3.del D, S3, acc, xs, del_same, upd_self d3, ?_, s3.del d3 l3, ?_, hz, hp⟩
              · exact (nu.trans (nD.trans (n2.trans n3))).del hD
              · exact ((ra.mono nD).mono n2 |>.mono n3).del d3
            | true =>
              simp only [if_true] at hp ⊢
              intro s0 H0 C cl fp
              have okb := ok_blk ok s0 H0 scope C cl fp
              have frb : Fr K M (X.blk s0 H0 scope (compEnvC scope cl C X.env) fp) c v3 e2 σ2 := ⟨re2.mono n3, fun x i hc => by rw [ok.cm hcm] at hc; cases hc⟩
              refine he okb g8 g1 s3 frb ?_
              cases hx : dX c elt false e2 S3 with
              | err x S4 => rw [hx] at hp; exact hp.elim
              | no => rw [hx] at hp; exact hp.elim
              | ok w S4 =>
                rw [hx] at hp
                simp only [R.bind_ok] at hp
                intro v4 n4 s4 y ry
                obtain ⟨d4, l4⟩ := l2 (n3.trans n4)
                split at hp
                · rename_i hza
                  refine ⟨xs, d4, by rw [ra.len, ← line_eq]; exact hza, hlt, by omega, v4.del D, S4, acc ++ [w], xs ++ [y], del_same, upd_del.symm, ?_, s4.del d4 l4, ?_, by rw [List.length_append]; exact hza, hp⟩
                  · exact (nu.trans (nD.trans (n2.trans (n3.trans n4)))).del hD
                  · exact (((ra.mono nD).mono n2 |>.mono n3 |>.mono n4).app (RepWs.one ry)).del d4
                · exact hp.elim
      · exact hp.elim
    · left
      have hd : tvs.drop i = [] := List.drop_eq_nil_of_le hge
      rw [hd] at hp
      simp only [lcLoop] at hp
      split at hp
      · rename_i hg
        refine ⟨wk.stop (u.put D (.lst xs)) S2 i (nu.trans nD) sD hg hge, ?_⟩
        exact hp u nu su D xs hu ra (by rw [ra.len, ← line_eq]; exact hz)
      · exact hp.elim

theorem sL_lc {elt : E} {t : T} {it : Ev.It} {ifs : Es} (hit : SI K M it) (he : SE K M elt) (hts : STs K M ifs) : SL K M (.lc elt t it ifs) := by
  intro X c N sc Wx ok pe hm _ v S e σ Q sim fr h
  have hm' := hm
  simp only [mE] at hm'
  split at hm'
  · obtain ⟨rfl, g⟩ := lc_go hit he hts ok hm sim fr h
    exact PEw (pe_lc g.calm g.nd piW g.blk g.pg g.pt g.pe g.fold) g.go
  · cases hm'
theorem sE_lc {elt : E} {t : T} {it : Ev.It} {ifs : Es} (hl : SL K M (.lc elt t it ifs)) : SE K M (.lc elt t it ifs) := by
  intro X c N sc Wx ok pe hm ho v S e σ Q sim fr h
  simp only [dX, tst_f] at h
  refine hl ok hm ho sim fr ?_
  simp only [dL]
  split at h
  · exact h.elim
  · rename_i hcm
    rw [if_neg hcm]
    have assoc : ∀ {α β γ : Type} (r : R α) (f : α → Store → R β) (g : β → Store → R γ), (r.bind f).bind g = r.bind fun a S => (f a S).bind g := by
      intro α β γ r f g
      cases r <;> rfl
    rw [← assoc] at h
    exact h.bind.imp fun l S1 v1 n1 s1 h1 a xs ha rx hz => (post_new h1 s1 rx).2 a ha
end
end Ev
end

section
set_option linter.all false
set_option autoImplicit false
/-! EvS13: calls of defs, methods, the making of objects. -/
namespace Ev
open PySem L2
section
variable {K : PySem.W.Frag} {M : Names}
theorem starHead {e : Expr} {es : List Expr} {env : Env} (h : (e :: es).all okE = true) : starEach (e :: es) env = (false, eval e env) :: starEach es env := by
  simp only [List.all_cons, Bool.and_eq_true] at h
  exact starE h.1
theorem starTail {e : Expr} {es : List Expr} {env : Env} {pos : Pos} (h : (e :: es).all okE = true) : (backTo pos (starEach es env)).any (·.1) = false := by
  simp only [List.all_cons, Bool.and_eq_true] at h
  exact starAny h.2
/-- values to be called with -/
def CallsTo (X : L2.Cx) (σ : St) (Q : VK) (g : Addr) (first : List V) : List V → Hp → Prop := fun vs H1 => ∀ (pins : List (Addr × Obj)) (s : Shared) (us : List Value), Inv X pins σ H1 s → Vals (first ++ vs) us → wpAny (model X.prog X.w) X.A (PySem.call (.ref g) us) (EP X pins σ Q) X.xe s
/-- f(..), by what the call leaves -/
theorem we_call {X : L2.Cx} {x : Str} {g : Addr} {e : Expr} {es : List Expr} {p pos : Pos} {σ : St} {H : Hp} {Q : VK} (hg : Gl X x) (hd : (x == ("__debug__" : Str)) = false) (hm : X.mg x = some (.ref g)) (hk : PySem.W.keepIn X.K (.ref g) = true) (ho : (e :: es).all okE = true)
    (h : WAx X (e :: es) σ H (CallsTo X σ Q g [])) : WEx X (.Call (.Name x p) (e :: es) [] pos) σ H Q := by
  intro pins s I
  refine wpAny_Call_Name_kw (ld_glob I hg hm ?_ hd)
  refine PySem.W.callWith_K (h₀ := X.base) I.ok.mod.kin hk (thn (h pos pins s I) fun us s1 ⟨vs, H1, I1, r1, q1⟩ => ⟨I1.kIn, ?_⟩) (starHead ho) (starTail ho)
  exact q1 pins s1 us I1 r1
theorem we_call0 {X : L2.Cx} {x : Str} {g : Addr} {p pos : Pos} {σ : St} {H : Hp} {Q : VK} (hg : Gl X x) (hd : (x == ("__debug__" : Str)) = false) (hm : X.mg x = some (.ref g)) (hk : PySem.W.keepIn X.K (.ref g) = true)
    (h : CallsTo X σ Q g [] [] H) : WEx X (.Call (.Name x p) [] [] pos) σ H Q := by
  intro pins s I
  refine wpAny_Call_Name_kw (ld_glob I hg hm ?_ hd)
  exact PySem.W.callWith_K0 I.kIn hk (h pins s [] I .nil)
theorem sE_call {f : String} {es : Es} (hs : SEs K M es) : SE K M (.call f es) := by
  intro X c N sc Wx ok pe hm _ v S e σ Q sim fr h
  simp only [dX, tst_f] at h
  simp only [mE] at hm
  split at hm
  · rename_i x p l pos _
    simp only [Bool.and_eq_true, decide_eq_true_eq] at hm
    obtain ⟨⟨⟨⟨rfl, g0⟩, g1⟩, g2⟩, g3⟩ := hm
    split at h
    · rename_i hdf
      obtain ⟨m1, m2⟩ := ok.callG f hdf
      have fin : ∀ {ws : List W} {S1 : Store} {v1 : Vw} {vs : List V}, Sim K M v1 S1 → RepWs K M v1 ws vs → PostQ K M v1 (fun cls d H => Wx cls d σ H) Q (c.call "" f ws S1) → CallsTo X σ Q (M.fnA "" f) [] vs v1.H := fun s1 r h1 pins s us I ru => ok.call X ⟨rfl, rfl, rfl, rfl, rfl, rfl⟩ Wx ok.tk "" f _ _ _ _ us pins σ s Q s1 I r ru h1
      cases l with
      | nil =>
        cases es with
        | nil =>
          simp only [dEs, R.bind_ok] at h
          exact we_call0 (ok.gl g0) (nm_d g1).1 m1 m2 (fin (ws := []) (vs := []) sim rfl h)
        | cons _ _ => cases g2
        | star _ _ => cases g2
      | cons a l =>
        refine we_call (ok.gl g0) (nm_d g1).1 m1 m2 g3 ?_
        exact hs ok g2 sim fr (h.bind.imp fun ws S1 v1 n1 s1 h1 vs rv => fin s1 rv h1)
    · exact h.elim
  · cases hm

theorem sE_mkx {C : String} {es : Es} (hs : SEs K M es) : SE K M (.mkx C es) := by
  intro X c N sc Wx ok pe hm _ v S e σ Q sim fr h
  simp only [dX, tst_f] at h
  simp only [mE] at hm
  split at hm
  · rename_i x p l pos _
    simp only [Bool.and_eq_true, decide_eq_true_eq] at hm
    obtain ⟨⟨⟨⟨rfl, g0⟩, g1⟩, g2⟩, g3⟩ := hm
    split at h
    · exact h.elim
    · rename_i hcm
      have hcm : c.calm = true := by simpa using hcm
      split at h
      · rename_i ns hns
        obtain ⟨m1, m2⟩ := ok.mkxG C ns hns
        have fin : ∀ {ws : List W} {S1 : Store} {v1 : Vw} {vs : List V}, Sim K M v1 S1 → RepWs K M v1 ws vs → PostQ K M v1 (fun cls d H => Wx cls d σ H) Q (if ns.length = ws.length then .ok (.r S1.length) (S1 ++ [.exc C (ns.zip ws)]) else .no) → CallsTo X σ Q (M.cls C) [] vs v1.H := by
          intro ws S1 v1 vs s1 r h1 pins s us I ru
          split at h1
          · rename_i hl
            exact ok.mkx hcm X ⟨rfl, rfl, rfl, rfl, rfl, rfl⟩ (ok.calm hcm) C ns ws S1 v1 vs us pins σ s Q hns s1 I r ru hl fun a v' n s' ra => h1 v' n s' _ ra
          · exact h1.elim
        cases l with
        | nil =>
          cases es with
          | nil =>
            simp only [dEs, R.bind_ok] at h
            exact we_call0 (ok.gl g0) (nm_d g1).1 m1 m2 (fin (ws := []) (vs := []) sim rfl h)
          | cons _ _ => cases g2
          | star _ _ => cases g2
        | cons a l =>
          refine we_call (ok.gl g0) (nm_d g1).1 m1 m2 g3 ?_
          exact hs ok g2 sim fr (h.bind.imp fun ws S1 v1 n1 s1 h1 vs rv => fin s1 rv h1)
      · exact h.elim
  · cases hm
theorem sE_callx {f : String} {i : Nat} : SE K M (.callx f i) := by
  intro X c N sc Wx ok pe hm _ v S e σ Q sim fr h
  simp only [dX, tst_f] at h
  simp only [mE] at hm
  split at hm
  · rename_i x p y p2 pos _
    simp only [Bool.and_eq_true, decide_eq_true_eq] at hm
    obtain ⟨⟨⟨⟨⟨rfl, g0⟩, g1⟩, g2⟩, g3⟩, g4⟩ := hm
    split at h
    · rename_i x j ec
      split at h
      · rename_i hij
        subst hij
        obtain ⟨a, oe, cls, d, h1, h2, h3, h4, h5⟩ := fr.cur x i ec
        have hne : c.hot f x S ≠ .no := fun z => by rw [z] at h; exact h
        obtain ⟨m1, m2⟩ := ok.hotG f x S hne
        have hp : PostQ K M v (fun _ _ _ => False) Q (c.hot f x S) := by
          cases hr : c.hot f x S with
          | ok w T => rw [hr] at h; exact h
          | err y T => exact absurd hr (ok.hotE f x S y T)
          | no => exact absurd hr hne
        refine we_call (e := .Name y p2) (es := []) (ok.gl g0) (nm_d g1).1 m1 m2 rfl ?_
        refine PAw (pa_cons (pe_var (by rw [ok.hN]; exact g2) (ok.vis g3) (nm_d g4).1 (nm_d g4).2) pa_nil rfl) ⟨.ref a, h2, ?_⟩
        intro pins s us I ru
        cases ru with
        | cons ra rn =>
          cases rn
          obtain rfl := ra
          exact ok.hot X ⟨rfl, rfl, rfl, rfl, rfl, rfl, rfl⟩ f x S v a oe cls d pins σ s Q h1 h3 h4 h5 sim I hp
      · exact h.elim
    · exact h.elim
  · cases hm

/-! ### methods -/
theorem RepF.miss {v : Vw} : ∀ {l : List (String × D)} {gs : List (Str × V)} {f : String}, RepF K M v l gs → (l.lookup f).isNone = true → gs.lookup (sx f) = none
  | [], _, _, r, _ => by
    simp only [RepF] at r
    subst r
    rfl
  | (g, w) :: l, _, f, r0, h => by
    simp only [RepF] at r0
    obtain ⟨y, ys, e, r, q⟩ := r0
    subst e
    by_cases hg : f = g
    · subst hg
      simp at h
    · have hb : (f == g) = false := by simpa using hg
      have hs : (sx f == sx g) = false := by
        have : sx f ≠ sx g := fun e => hg (sx_inj e)
        simpa using this
      simp only [List.lookup, hb] at h
      simp only [List.lookup, hs]
      exact RepF.miss q h
theorem RepWF.miss {v : Vw} : ∀ {l : List (String × W)} {gs : List (Str × V)} {f : String}, RepWF K M v l gs → (l.lookup f).isNone = true → gs.lookup (sx f) = none
  | [], _, _, r, _ => by
    cases r
    rfl
  | (g, w) :: l, _, f, r0, h => by
    obtain ⟨y, ys, e, r, q⟩ := r0
    subst e
    by_cases hg : f = g
    · subst hg
      simp at h
    · have hb : (f == g) = false := by simpa using hg
      have hs : (sx f == sx g) = false := by
        have : sx f ≠ sx g := fun e => hg (sx_inj e)
        simpa using this
      simp only [List.lookup, hb] at h
      simp only [List.lookup, hs]
      exact RepWF.miss q h
theorem recv_ok {v : Vw} {S : Store} {C m : String} {w : W} {y : V} (s : Sim K M v S) (r : RepW K M v w y) (h : recvM C m w S = true) : ∃ a dx gs, y = .ref a ∧ v.H a = some (.ins (M.cls C) dx gs) ∧ gs.lookup (sx m) = none := by
  cases w with
  | d d =>
    cases d <;> simp only [recvM] at h <;> first | (cases h; done) | skip
    simp only [Bool.and_eq_true, beq_iff_eq] at h
    obtain ⟨rfl, h2⟩ := h
    simp only [RepW, Rep] at r
    obtain ⟨a, dx, gs, rfl, e, _, q⟩ := r
    exact ⟨a, dx, gs, rfl, e, q.miss h2⟩
  | r n =>
    obtain ⟨hn, rfl⟩ := r
    simp only [recvM] at h
    split at h
    · rename_i C' fs e0
      simp only [Bool.and_eq_true, beq_iff_eq] at h
      obtain ⟨rfl, h2⟩ := h
      obtain ⟨dx, gs, e1, q⟩ := s.ob n _ e0
      exact ⟨_, dx, gs, rfl, e1, q.miss h2⟩
    · cases h
theorem noStars {env : Env} {pos : Pos} : ∀ {l : List Expr}, l.all okE = true → (backTo pos (starEach l env)).all (fun x => !x.1) = true
  | [], _ => rfl
  | e :: es, h => by
    simp only [List.all_cons, Bool.and_eq_true] at h
    rw [starE h.1]
    show (true && (backTo pos (starEach es env)).all (fun x => !x.1)) = true
    rw [noStars h.2]
    rfl
theorem meth_arm {o : Expr} {m : Str} {apos pos : Pos} {l : List Expr} {env : Env} (ho : okE o = true) (hl : (apos.endLine == pos.line) = true) (hall : l.all okE = true) (hn : l.length < 20) : eval (.Call (.Attribute o m apos) l [] pos) env = (do
      let ov ← eval o env
      standAt apos.atName
      let (f, first) ← holding [ov] (getMethod ov m (plainOf o env))
      callWith pos f first (backTo pos (starEach l env)) (backToKw pos (keywordEach [] env))) := by
  rw [arm_eval_Call, attB ho]
  congr 1
  funext ov
  congr 1
  funext _
  refine mcall_line ?_ hl
  unfold methodCallForm
  rw [noStars hall]
  simp only [keywordEach, backToKw, List.map_nil, List.all_nil, List.isEmpty_nil, if_true, Bool.and_true, Bool.true_and, List.length_nil, Nat.add_zero]
  exact decide_eq_true (by omega)
theorem sE_meth {C m : String} {o : E} {es : Es} (ho : SE K M o) (hs : SEs K M es) : SE K M (.meth C m o es) := by
  intro X c N sc Wx ok pe hm _ v S e σ Q sim fr h
  simp only [dX, tst_f] at h
  simp only [mE] at hm
  split at hm
  · rename_i b gg ap l p _
    simp only [Bool.and_eq_true, decide_eq_true_eq] at hm
    obtain ⟨⟨⟨⟨⟨⟨⟨hC, rfl⟩, g0⟩, g1⟩, g2⟩, g3⟩, g4⟩, g5⟩ := hm
    split at h
    · rename_i hdf
      obtain ⟨mc, mm⟩ := ok.callM C m hdf hC
      have fin : ∀ {ws : List W} {S1 : Store} {v1 : Vw} {vs : List V}, Sim K M v1 S1 → RepWs K M v1 ws vs → PostQ K M v1 (fun cls d H => Wx cls d σ H) Q (c.call C m ws S1) → CallsTo X σ Q (M.fnA C m) [] vs v1.H := fun s1 r h1 pins s us I ru => ok.call X ⟨rfl, rfl, rfl, rfl, rfl, rfl⟩ Wx ok.tk C m _ _ _ _ us pins σ s Q s1 I r ru h1
      have main : WEx X b σ v.H fun y H1 => ∃ a dx gs, y = .ref a ∧ H1 a = some (.ins (M.cls C) dx gs) ∧ gs.lookup (sx m) = none ∧ (match l with
        | [] => CallsTo X σ Q (M.fnA C m) [] [.ref a] H1
        | l => WAx X l σ H1 fun vs H2 => CallsTo X σ Q (M.fnA C m) [] (.ref a :: vs) H2) := by
        refine ho ok g2 g0 sim fr (h.bind.imp fun w S1 v1 n1 s1 h1 y ry => ?_)
        split at h1
        · rename_i hr
          obtain ⟨a, dx, gs, rfl, e1, e2⟩ := recv_ok s1 ry hr
          refine ⟨a, dx, gs, rfl, e1, e2, ?_⟩
          cases l with
          | nil =>
            cases es with
            | nil =>
              simp only [dEs, R.bind_ok] at h1
              exact fin (ws := [w]) (vs := [.ref a]) s1 ⟨_, _, rfl, ry, rfl⟩ h1
            | cons _ _ => cases g3
            | star _ _ => cases g3
          | cons q l => exact hs ok g3 s1 (fr.mono n1) (h1.bind.imp fun ws S2 v2 n2 s2 h2 vs rv => fin (ws := w :: ws) (vs := .ref a :: vs) s2 ⟨_, _, rfl, ry.mono n2, rv⟩ h2)
        · exact h1.elim
      intro pins s I
      refine PySem.W.methodCall_KW (pl := plainOf b X.env) (thn (main pins s I) fun u s1 ⟨x, H1, I1, rx, a, dx, fs, ex, ea, hl, q⟩ => ?_) (meth_arm g0 g1 g4 g5)
      subst ex
      obtain rfl : u = Value.ref a := rx
      refine getmeth_ok I1 ea mc mm hl ?_
      cases l with
      | nil => exact PySem.W.callWith_K0 (first := [.ref a]) I1.kIn mm.kp (q pins s1 [.ref a] I1 (.cons rfl .nil))
      | cons d l =>
        refine PySem.W.callWith_K (first := [.ref a]) (h₀ := X.base) I.ok.mod.kin mm.kp (thn (q p pins s1 I1) fun us s2 ⟨vs, H2, I2, r, q2⟩ => ⟨I2.kIn, ?_⟩) (starHead g4) (starTail g4)
        exact q2 pins s2 (.ref a :: us) I2 (.cons rfl r)
    · exact h.elim
  · cases hm

/-! ### making -/
def WKx (X : L2.Cx) (kws : List Keyword) (σ : St) (H : Hp) (Q : List V → Hp → Prop) : Prop := ∀ (pos : Pos) (pins : List (Addr × Obj)) (s : Shared), Inv X pins σ H s → wpAny (model X.prog X.w) X.A (evalAll ((backToKw pos (keywordEach kws X.env)).map (·.2))) (AP X pins σ Q) X.xe s
theorem pkW {X : L2.Cx} {kws : List Keyword} : PK X kws (WKx X kws) := ⟨fun pos pins s σ H Q I h => h pos pins s I⟩
theorem PKw {X : L2.Cx} {kws : List Keyword} {t : TA} (h : PK X kws t) {σ : St} {H : Hp} {Q : List V → Hp → Prop} (q : t σ H Q) : WKx X kws σ H Q := fun pos pins s I => h.run pos pins s σ H Q I q
section
variable (K M)
/-- a row: positional, then by keyword -/
def SKs (es : Es) : Prop := ∀ {X : L2.Cx} {c : Ev.Cx} {N : List Str} {sc : Scope} {Wx : WX}, Ok K M X c N sc Wx → ∀ {l : List Expr} {kws : List Keyword}, mEs N sc es (l ++ kws.map (·.value)) = true → l.all okE = true → (kws.all fun k => okE k.value) = true → ∀ {v : Vw} {S : Store} {e : En} {σ : St} {Q : List V → List V → Hp → Prop}, Sim K M v S → Fr K M X c v e σ →
  Post K M v (fun cls d H => Wx cls d σ H) (fun ws _ v' => ∀ vs zs, RepWs K M v' ws (vs ++ zs) → vs.length = l.length → zs.length = kws.length → Q vs zs v'.H) (dEs c es e S) → (l = [] → WKx X kws σ v.H fun zs H2 => Q [] zs H2) ∧ WAx X l σ v.H fun vs H1 => WKx X kws σ H1 fun zs H2 => Q vs zs H2
end
theorem sKs_nil : SKs K M .nil := by
  intro X c N sc Wx ok l kws hm ho hk v S e σ Q sim fr h
  have hl : l = [] ∧ kws = [] := by
    cases l with
    | nil =>
      cases kws with
      | nil => exact ⟨rfl, rfl⟩
      | cons _ _ => cases hm
    | cons _ _ => cases hm
  obtain ⟨rfl, rfl⟩ := hl
  have : WKx X [] σ v.H fun zs H2 => Q [] zs H2 := PKw pk_nil (h.now sim [] [] rfl rfl rfl)
  exact ⟨fun _ => this, PAw pa_nil this⟩
theorem sKs_star {x : E} {r : Es} : SKs K M (.star x r) := by
  intro X c N sc Wx ok l kws hm ho hk v S e σ Q sim fr h
  exfalso
  cases l with
  | nil =>
    cases kws with
    | nil => cases hm
    | cons k kws =>
      obtain ⟨nm, val, kp⟩ := k
      cases val <;> first | (cases hm; done) | skip
      simp only [List.all_cons, Bool.and_eq_true] at hk
      exact absurd hk.1 Bool.false_ne_true
  | cons a l =>
    cases a <;> first | (cases hm; done) | skip
    simp only [List.all_cons, Bool.and_eq_true] at ho
    exact absurd ho.1 Bool.false_ne_true
theorem sKs_cons {x : E} {r : Es} (hx : SE K M x) (hr : SKs K M r) : SKs K M (.cons x r) := by
  intro X c N sc Wx ok l kws hm ho hk v S e σ Q sim fr h
  simp only [dEs] at h
  cases l with
  | nil =>
    cases kws with
    | nil => cases hm
    | cons k kws =>
      obtain ⟨nm, val, kp⟩ := k
      simp only [List.nil_append, List.map_cons, mEs, Bool.and_eq_true] at hm
      simp only [List.all_cons, Bool.and_eq_true] at hk
      have : WKx X (⟨nm, val, kp⟩ :: kws) σ v.H fun zs H2 => Q [] zs H2 := by
        refine PKw (pk_cons (te := WEx X val) (t := WKx X kws) peW pkW) ?_
        refine hx ok hm.1.2 hm.1.1 sim fr (h.bind.imp fun w S1 v1 n1 s1 h1 y ry => ?_)
        refine (hr ok (l := []) (kws := kws) (Q := fun vs zs H => Q [] (y :: (vs ++ zs)) H) (by simpa using hm.2) rfl hk.2 s1 (fr.mono n1) (h1.bind.imp fun ws S2 v2 n2 s2 h2 vs zs rv hv hz => ?_)).1 rfl
        have : vs = [] := by simpa using hv
        subst this
        exact h2.now s2 [] (y :: zs) ⟨y, zs, rfl, ry.mono n2, rv⟩ rfl (by simpa using hz)
      exact ⟨fun _ => this, PAw pa_nil this⟩
  | cons pe l =>
    simp only [List.cons_append, mEs, Bool.and_eq_true] at hm
    simp only [List.all_cons, Bool.and_eq_true] at ho
    refine ⟨(fun z => nomatch z), ?_⟩
    refine PAw (pa_cons (te := WEx X pe) (t := WAx X l) peW paW (starE ho.1)) ?_
    refine hx ok hm.1.2 hm.1.1 sim fr (h.bind.imp fun w S1 v1 n1 s1 h1 y ry => ?_)
    refine (hr ok (Q := fun vs zs H => Q (y :: vs) zs H) hm.2 ho.2 hk s1 (fr.mono n1) (h1.bind.imp fun ws S2 v2 n2 s2 h2 vs zs rv hv hz => ?_)).2
    exact h2.now s2 (y :: vs) zs ⟨y, vs ++ zs, rfl, ry.mono n2, rv⟩ (by simp [hv]) hz
theorem kw_names {env : Env} {pos : Pos} : ∀ {kws : List Keyword} {ks : List String}, kws.map (·.arg) = ks.map (fun k => some (sx k)) →
    (backToKw pos (keywordEach kws env)).all (·.1.isSome) = true ∧ (backToKw pos (keywordEach kws env)).filterMap (·.1) = ks.map sx ∧ (backToKw pos (keywordEach kws env)).any (·.1.isNone) = false
  | [], [], _ => ⟨rfl, rfl, rfl⟩
  | [], _ :: _, h => by cases h
  | _ :: _, [], h => by cases h
  | ⟨nm, val, kp⟩ :: kws, k :: ks, h => by
    simp only [List.map_cons, List.cons.injEq] at h
    obtain ⟨rfl, h2⟩ := h
    obtain ⟨i1, i2, i3⟩ := kw_names (env := env) (pos := pos) h2
    refine ⟨?_, ?_, ?_⟩
    · show (true && (backToKw pos (keywordEach kws env)).all (·.1.isSome)) = true
      rw [i1]; rfl
    · show sx k :: (backToKw pos (keywordEach kws env)).filterMap (·.1) = _
      rw [i2]; rfl
    · show (false || (backToKw pos (keywordEach kws env)).any (·.1.isNone)) = false
      rw [i3]; rfl
theorem sE_mk {C : String} {n : Nat} {ks : List String} {es : Es} (hs : SKs K M es) : SE K M (.mk C n ks es) := by
  intro X c N sc Wx ok pe hm _ v S e σ Q sim fr h
  simp only [dX, tst_f] at h
  simp only [mE] at hm
  split at hm
  · rename_i x p l kws pos _
    simp only [Bool.and_eq_true, decide_eq_true_eq] at hm
    obtain ⟨⟨⟨⟨⟨⟨⟨rfl, g0⟩, g1⟩, g2⟩, g3⟩, g4⟩, g5⟩, g6⟩ := hm
    split at h
    · rename_i hdf
      obtain ⟨m1, m2⟩ := ok.makeG C hdf
      have hkl : kws.length = ks.length := by simpa using congrArg List.length g6
      have two := hs ok (Q := fun vs zs H1 => ∀ (pins : List (Addr × Obj)) (s : Shared) (us zus : List Value), Inv X pins σ H1 s → Vals vs us → Vals zs zus → wpAny (model X.prog X.w) X.A (PySem.call (.ref (M.cls C)) us ((ks.map sx).zip zus)) (EP X pins σ Q) X.xe s) g2 g3 g4 sim fr
        (h.bind.imp fun ws S1 v1 n1 s1 h1 vs zs rv hv hz pins s us zus I ru rz => ok.make X ⟨rfl, rfl, rfl, rfl, rfl, rfl⟩ Wx ok.tk C n ks _ _ _ _ _ us zus pins σ s Q s1 I rv ru rz (hv.trans g5) (hz.trans hkl) h1)
      intro pins s I
      obtain ⟨k1, k2, k3⟩ := kw_names (env := X.env) (pos := pos) g6
      refine wpAny_Call_Name_kw (ld_glob I (ok.gl g0) m1 ?_ (nm_d g1).1)
      cases l with
      | nil =>
        refine PySem.W.callWith_KW0 (h₀ := X.base) I.ok.mod.kin m2 k1 (thn (two.1 rfl pos pins s I) fun zus s1 ⟨zs, H1, I1, rz, q⟩ => ⟨I1.kIn, ?_⟩) (by show (false || _) = false; rw [k3]; rfl)
        rw [k2]
        exact q pins s1 [] zus I1 .nil rz
      | cons a l =>
        refine PySem.W.callWith_KW (h₀ := X.base) I.ok.mod.kin m2 k1 (thn (two.2 pos pins s I) fun us s1 ⟨vs, H1, I1, ru, q⟩ => ?_) (by rw [starAny g3, k3]; rfl) (starHead g3)
        refine thn (q pos pins s1 I1) fun zus s2 ⟨zs, H2, I2, rz, q2⟩ => ⟨I2.kIn, ?_⟩
        rw [k2]
        exact q2 pins s2 us zus I2 ru rz
    · exact h.elim
  · cases hm
end
end Ev
end

section
set_option linter.all false
set_option autoImplicit false
/-! EvS14: every expression. -/
namespace Ev
open PySem L2
section
variable {K : PySem.W.Frag} {M : Names}
theorem sL_no {x : E} (h : ∀ c e S, dL c x e S = .no) : SL K M x := by
  intro X c N sc Wx ok pe hm _ v S e σ Q sim fr hp
  rw [h] at hp
  exact hp.elim
theorem sE_false {x : E} (h : ∀ N sc pe, mE N sc x pe = false) : SE K M x := by
  intro X c N sc Wx ok pe hm _ v S e σ Q sim fr hp
  rw [h] at hm
  cases hm
theorem sT_false {x : E} (h : ∀ N sc pe, mE N sc x pe = false) : ST K M x := by
  intro X c N sc Wx ok pe hm _ v S e σ Q sim fr hp
  rw [h] at hm
  cases hm
theorem sT_ite {q a b : E} : ST K M (.ite q a b) := by
  intro X c N sc Wx ok pe hm _ v S e σ Q sim fr hp
  have : dT c (.ite q a b) e S = .no := by
    unfold dT
    simp only [dX, if_true]
    rfl
  rw [this] at hp
  exact hp.elim
section
variable (K M)
structure AE (x : E) : Prop where
  e : SE K M x
  t : ST K M x
  l : SL K M x
structure AEs (es : Es) : Prop where
  s : SEs K M es
  f : SFs K M es
  t : STs K M es
  k : SKs K M es
end
theorem AE.plain {x : E} (hx : SE K M x) (hb : ∀ c e S, dX c x true e S = tst true (dX c x false e S)) (hp : ∀ N sc pe, mE N sc x pe = true → plainT pe = true) (hl : ∀ c e S, dL c x e S = .no) : AE K M x := ⟨hx, sT_plain hx hb hp, sL_no hl⟩
theorem AE.off {x : E} (h : ∀ N sc pe, mE N sc x pe = false) (hl : ∀ c e S, dL c x e S = .no) : AE K M x := ⟨sE_false h, sT_false h, sL_no hl⟩
theorem o1_plain {o : O1} (h : isCall o = true) (a : E) (N : List Str) (sc : Scope) (pe : Expr) (hm : mE N sc (.o1 o a) pe = true) : plainT pe = true := by
  cases o <;> first | (cases h; done) | skip
  all_goals (cases pe <;> first | rfl | (simp [mE] at hm; done))
theorem aO1 {o : O1} {a : E} (ha : AE K M a) : AE K M (.o1 o a) := by
  cases hc : isCall o with
  | true => exact .plain (sE_o1c hc ha.e) (fun _ _ _ => rfl) (o1_plain hc a) (fun _ _ _ => rfl)
  | false =>
    cases o <;> first | (cases hc; done) | skip
    · refine .plain (sE_neg ha.e) (fun _ _ _ => rfl) (fun N sc pe hm => ?_) (fun _ _ _ => rfl)
      cases pe <;> first | rfl | (simp [mE] at hm; done) | skip
      rename_i op x pos
      cases op <;> first | rfl | (simp [mE] at hm; done)
    · exact ⟨sE_isN ha.e, sT_isN ha.e, sL_no fun _ _ _ => rfl⟩
    · exact ⟨sE_notN ha.e, sT_notN ha.e, sL_no fun _ _ _ => rfl⟩
    · refine .plain (sE_rev ha.e) (fun _ _ _ => rfl) (fun N sc pe hm => ?_) (fun _ _ _ => rfl)
      cases pe <;> first | rfl | (simp [mE] at hm; done)
theorem aO2 {o : O2} {a b : E} (ha : AE K M a) (hb : AE K M b) : AE K M (.o2 o a b) := by
  by_cases h1 : o = .idx
  · subst h1
    refine .plain (sE_idx ha.e hb.e) (fun _ _ _ => rfl) (fun N sc pe hm => ?_) (fun _ _ _ => rfl)
    cases pe <;> first | rfl | (simp [mE] at hm; done)
  by_cases h2 : o = .join
  · subst h2
    refine .plain (sE_join ha.e hb.e) (fun _ _ _ => rfl) (fun N sc pe hm => ?_) (fun _ _ _ => rfl)
    cases pe <;> first | rfl | (simp [mE] at hm; done)
  by_cases h3 : o = .index
  · subst h3
    refine .plain (sE_index ha.e hb.e) (fun _ _ _ => rfl) (fun N sc pe hm => ?_) (fun _ _ _ => rfl)
    cases pe <;> first | rfl | (simp [mE] at hm; done)
  by_cases h4 : o = .min2
  · subst h4
    exact .off (fun _ _ _ => by simp [mE]) (fun _ _ _ => rfl)
  by_cases h5 : o = .max2
  · subst h5
    exact .off (fun _ _ _ => by simp [mE]) (fun _ _ _ => rfl)
  exact ⟨sE_o2 h1 h2 h3 h4 h5 ha.e hb.e, sT_o2 h1 h2 h3 h4 h5 ha.e hb.e, sL_no fun _ _ _ => rfl⟩
mutual
theorem aX (K : PySem.W.Frag) (M : Names) : ∀ x : E, AE K M x
  | .v i => .plain (sE_v i) (fun _ _ _ => rfl) (fun N sc pe hm => by cases pe <;> first | rfl | (simp [mE] at hm; done)) (fun _ _ _ => rfl)
  | .k d => .plain (sE_k d) (fun _ _ _ => rfl) (fun N sc pe hm => by cases pe <;> first | rfl | (simp [mE] at hm; done)) (fun _ _ _ => rfl)
  | .g x => .plain (sE_g x) (fun _ _ _ => rfl) (fun N sc pe hm => by cases pe <;> first | rfl | (simp [mE] at hm; done)) (fun _ _ _ => rfl)
  | .tup es => .plain (sE_tup (aEs K M es).s) (fun _ _ _ => rfl) (fun N sc pe hm => by cases pe <;> first | rfl | (simp [mE] at hm; done)) (fun _ _ _ => rfl)
  | .lst es => ⟨sE_lst (aEs K M es).s, sT_plain (sE_lst (aEs K M es).s) (fun _ _ _ => rfl) (fun N sc pe hm => by cases pe <;> first | rfl | (simp [mE] at hm; done)), sL_lst (aEs K M es).s⟩
  | .o1 o a => aO1 (aX K M a)
  | .o2 o a b => aO2 (aX K M a) (aX K M b)
  | .ch o p a b d => ⟨sE_ch (aX K M a).e (aX K M b).e (aX K M d).e, sT_ch (aX K M a).e (aX K M b).e (aX K M d).e, sL_no fun _ _ _ => rfl⟩
  | .sl a lo hi => .plain (sE_sl (aX K M a).e (aX K M lo).e (aX K M hi).e) (fun _ _ _ => rfl) (fun N sc pe hm => by cases pe <;> first | rfl | (simp [mE] at hm; done)) (fun _ _ _ => rfl)
  | .isi a ty => .plain (sE_isi (aX K M a).e) (fun _ _ _ => rfl) (fun N sc pe hm => by cases pe <;> first | rfl | (simp [mE] at hm; done)) (fun _ _ _ => rfl)
  | .and a b => ⟨sE_and (aX K M a).e (aX K M b).e, sT_and (aX K M a).t (aX K M b).t, sL_no fun _ _ _ => rfl⟩
  | .or a b => ⟨sE_or (aX K M a).e (aX K M b).e, sT_or (aX K M a).t (aX K M b).t, sL_no fun _ _ _ => rfl⟩
  | .not a => ⟨sE_not (aX K M a).e, sT_not (aX K M a).t, sL_no fun _ _ _ => rfl⟩
  | .ite q a b => ⟨sE_ite (aX K M q).t (aX K M a).e (aX K M b).e, sT_ite, sL_no fun _ _ _ => rfl⟩
  | .at a f => .plain (sE_at (aX K M a).e) (fun _ _ _ => rfl) (fun N sc pe hm => by cases pe <;> first | rfl | (simp [mE] at hm; done)) (fun _ _ _ => rfl)
  | .call f es => .plain (sE_call (aEs K M es).s) (fun _ _ _ => rfl) (fun N sc pe hm => by cases pe <;> first | rfl | (simp [mE] at hm; done)) (fun _ _ _ => rfl)
  | .meth C m o es => .plain (sE_meth (aX K M o).e (aEs K M es).s) (fun _ _ _ => rfl) (fun N sc pe hm => by cases pe <;> first | rfl | (simp [mE] at hm; done)) (fun _ _ _ => rfl)
  | .mk C n ks es => .plain (sE_mk (aEs K M es).k) (fun _ _ _ => rfl) (fun N sc pe hm => by cases pe <;> first | rfl | (simp [mE] at hm; done)) (fun _ _ _ => rfl)
  | .lc elt t it ifs =>
    have hl : SL K M (.lc elt t it ifs) := sL_lc (aI K M it) (aX K M elt).e (aEs K M ifs).t
    ⟨sE_lc hl, sT_plain (sE_lc hl) (fun _ _ _ => rfl) (fun N sc pe hm => by cases pe <;> first | rfl | (simp [mE] at hm; done)), hl⟩
  | .onl o l => .plain (sE_onl (aX K M l).l) (fun _ _ _ => rfl) (fun N sc pe hm => by cases pe <;> first | rfl | (simp [mE] at hm; done)) (fun _ _ _ => rfl)
  | .joinl s l => .plain (sE_joinl (aX K M s).e (aX K M l).l) (fun _ _ _ => rfl) (fun N sc pe hm => by cases pe <;> first | rfl | (simp [mE] at hm; done)) (fun _ _ _ => rfl)
  | .inl neg x l => ⟨sE_inl (aX K M x).e (aX K M l).l, sT_inl (aX K M x).e (aX K M l).l, sL_no fun _ _ _ => rfl⟩
  | .fs es => .plain (sE_fs (aEs K M es).f) (fun _ _ _ => rfl) (fun N sc pe hm => by cases pe <;> first | rfl | (simp [mE] at hm; done)) (fun _ _ _ => rfl)
  | .app l x => .plain (sE_app (aX K M l).e (aX K M x).e) (fun _ _ _ => rfl) (fun N sc pe hm => by cases pe <;> first | rfl | (simp [mE] at hm; done)) (fun _ _ _ => rfl)
  | .ext l x => .plain (sE_ext (aX K M l).e (aX K M x).e) (fun _ _ _ => rfl) (fun N sc pe hm => by cases pe <;> first | rfl | (simp [mE] at hm; done)) (fun _ _ _ => rfl)
  | .pop l => .plain (sE_pop (aX K M l).e) (fun _ _ _ => rfl) (fun N sc pe hm => by cases pe <;> first | rfl | (simp [mE] at hm; done)) (fun _ _ _ => rfl)
  | .popi l i => .off (fun _ _ _ => by simp [mE]) (fun _ _ _ => rfl)
  | .insz l x => .plain (sE_insz (aX K M l).e (aX K M x).e) (fun _ _ _ => rfl) (fun N sc pe hm => by cases pe <;> first | rfl | (simp [mE] at hm; done)) (fun _ _ _ => rfl)
  | .mkx C es => .plain (sE_mkx (aEs K M es).s) (fun _ _ _ => rfl) (fun N sc pe hm => by cases pe <;> first | rfl | (simp [mE] at hm; done)) (fun _ _ _ => rfl)
  | .callx f i => .plain sE_callx (fun _ _ _ => rfl) (fun N sc pe hm => by cases pe <;> first | rfl | (simp [mE] at hm; done)) (fun _ _ _ => rfl)
  | .exf i f => .plain sE_exf (fun _ _ _ => rfl) (fun N sc pe hm => by cases pe <;> first | rfl | (simp [mE] at hm; done)) (fun _ _ _ => rfl)
theorem aEs (K : PySem.W.Frag) (M : Names) : ∀ es : Es, AEs K M es
  | .nil => ⟨sEs_nil, sFs_nil, sTs_nil, sKs_nil⟩
  | .cons x r => ⟨sEs_cons (aX K M x).e (aEs K M r).s, sFs_cons (aX K M x).e (aEs K M r).f, sTs_cons (aX K M x).t, sKs_cons (aX K M x).e (aEs K M r).k⟩
  | .star x r => ⟨sEs_star (aX K M x).e (aEs K M r).s, sFs_star, sTs_star, sKs_star⟩
theorem aI (K : PySem.W.Frag) (M : Names) : ∀ it : Ev.It, SI K M it
  | .of x => sI_of (aX K M x).e
  | .rng1 a => sI_rng1 (aX K M a).e
  | .rng2 a b => sI_rng2 (aX K M a).e (aX K M b).e
  | .revr a => sI_revr (aX K M a).e
  | .enum x => sI_enum (aX K M x).e
  | .zip a b => sI_zip (aX K M a).e (aX K M b).e
end
end
end Ev
end

section
set_option linter.all false
set_option autoImplicit false
/-! EvS15: statements. -/
namespace Ev
open PySem L2
section
variable {K : PySem.W.Frag} {M : Names}

structure SOk (K : PySem.W.Frag) (M : Names) (X : L2.Cx) (c : Ev.Cx) (N : List Str) (sc : Scope) (Wx : WX) : Prop extends Ok K M X c N sc Wx where
  fn : ∀ x, X.fn x = true
  kind : X.env.scope.kind = .function
  hp : c.calm = true → PassesOwn (model X.prog X.w) X.A X.env X.xe
  stk : X.stack = X.env :: X.outer
  frm : X.env.frame = some X.env.locals
  exnG : ∀ C ns, c.exn C = some ns → X.mg (sx C) = some (.ref (M.cls C)) ∧ PySem.W.keepIn X.K (.ref (M.cls C)) = true
  exnM : ∀ (X' : L2.Cx), SameG X X' → X'.calm = true → ∀ (C : String) (ns : List String) (ws : List W) (S : Store) (v : Vw) (vs : List V) (us : List Value) (pins : List (Addr × Obj)) (σ : St) (s : Shared) (Q : XK), c.exn C = some ns → Sim K M v S → Inv X' pins σ v.H s → RepWs K M v ws vs → Vals vs us → ns.length = ws.length →
    (∀ cls d v', Nx v v' → Sim K M v' S → RepX K M v' ⟨C, ns.zip ws⟩ cls d → Q cls d v'.H) → wpAny (model X'.prog X'.w) X'.A (PySem.call (.ref (M.cls C)) us) (MkP X' pins σ Q) X'.xe s
  sub : ∀ x C b, c.sub x C = some b → PySem.W.exmOne X.K (.ref (M.cls x)) (.ref (M.cls C)) = some b

def WS1 (X : L2.Cx) (st : Stmt) : TS := fun D σ H => ∀ (pins : List (Addr × Obj)) (s : Shared), Inv X pins σ H s → wpAny (model X.prog X.w) X.A (exec st X.env) (SP X pins D) X.xe s
def WSx (X : L2.Cx) (l : List Stmt) : TS := fun D σ H => ∀ (pins : List (Addr × Obj)) (s : Shared), Inv X pins σ H s → wpAny (model X.prog X.w) X.A (execs l X.env) (SP X pins D) X.xe s
theorem psW {X : L2.Cx} {st : Stmt} : PS X st (WS1 X st) := ⟨fun pins s σ H D I h => h pins s I⟩
theorem pssW {X : L2.Cx} {l : List Stmt} : PSs X l (WSx X l) := ⟨fun pins s σ H D I h => h pins s I⟩
theorem PSw {X : L2.Cx} {st : Stmt} {t : TS} (h : PS X st t) {D : Ends} {σ : St} {H : Hp} (q : t D σ H) : WS1 X st D σ H := fun pins s I => h.run pins s σ H D I q
theorem PSsw {X : L2.Cx} {l : List Stmt} {t : TS} (h : PSs X l t) {D : Ends} {σ : St} {H : Hp} (q : t D σ H) : WSx X l D σ H := fun pins s I => h.run pins s σ H D I q

/-- what a statement's run leaves -/
def EndF (K : PySem.W.Frag) (M : Names) (D : Ends) (l : List Nat) (σ : St) (v : Vw) : Fl → Prop
  | .nx e => ∀ σ', RepE K M v e σ' → Off l σ σ' → D.nx σ' v.H
  | .rt w => ∀ y, RepW K M v w y → D.rt y v.H
  | .bk e => ∀ σ', RepE K M v e σ' → Off l σ σ' → D.bk σ' v.H
  | .ct e => ∀ σ', RepE K M v e σ' → Off l σ σ' → D.ct σ' v.H
def PostS (K : PySem.W.Frag) (M : Names) (v : Vw) (E : WX) (D : Ends) (l : List Nat) (σ : St) : R Fl → Prop
  | .ok f S' => ∀ v', Nx v v' → Sim K M v' S' → EndF K M D l σ v' f
  | .err x S' => ∀ cls d v', Nx v v' → Sim K M v' S' → RepX K M v' x cls d → ∀ σ', Off l σ σ' → E cls d σ' v'.H
  | .no => False
theorem PostS.bind {α : Type} {v : Vw} {E : WX} {D : Ends} {l : List Nat} {σ : St} {r : R α} {f : α → Store → R Fl} (h : PostS K M v E D l σ (r.bind f)) : Post K M v (fun cls d H => E cls d σ H) (fun a S' v' => PostS K M v' E D l σ (f a S')) r := by
  cases r with
  | ok a S' =>
    intro v' n s
    simp only [R.bind_ok] at h
    cases e : f a S' with
    | ok fl S2 => rw [e] at h; exact fun v2 n2 s2 => h v2 (n.trans n2) s2
    | err x S2 => rw [e] at h; exact fun cls d v2 n2 s2 => h cls d v2 (n.trans n2) s2
    | no => rw [e] at h; exact h
  | err x S' => exact fun cls d v' n s r => h cls d v' n s r σ (Off.refl l σ)
  | no => exact h
theorem PostS.shift {v v' : Vw} {E : WX} {D : Ends} {l l' : List Nat} {σ σ' : St} {r : R Fl} (h : PostS K M v E D l σ r) (n : Nx v v') (o : ∀ σ'', Off l' σ' σ'' → Off l σ σ'') : PostS K M v' E D l' σ' r := by
  cases r with
  | ok f S' =>
    intro v2 n2 s2
    have q := h v2 (n.trans n2) s2
    cases f with
    | nx e => exact fun τ r of => q τ r (o τ of)
    | rt w => exact q
    | bk e => exact fun τ r of => q τ r (o τ of)
    | ct e => exact fun τ r of => q τ r (o τ of)
  | err x S' => exact fun cls d v2 n2 s2 r τ of => h cls d v2 (n.trans n2) s2 r τ (o τ of)
  | no => exact h
theorem PostS.now {v : Vw} {E : WX} {D : Ends} {l : List Nat} {σ : St} {f : Fl} {S : Store} (h : PostS K M v E D l σ (.ok f S)) (s : Sim K M v S) : EndF K M D l σ v f := h v (Nx.refl v) s
section
variable (K M)
def SS1 (s : Ev.S) : Prop := ∀ {X : L2.Cx} {c : Ev.Cx} {N : List Str} {sc : Scope} {Wx : WX}, SOk K M X c N sc Wx → ∀ {st : Stmt}, mS N sc s [st] = true → ∀ {v : Vw} {S : Store} {e : En} {σ : St} {D : Ends}, Sim K M v S → Fr K M X c v e σ →
  (∀ x i, c.cur = some (x, i) → i ∉ Ev.S.asg s) → PostS K M v Wx D (Ev.S.asg s) σ (dS c s e S) → WS1 X st D σ v.H
def SSl (s : Ev.S) : Prop := ∀ {X : L2.Cx} {c : Ev.Cx} {N : List Str} {sc : Scope} {Wx : WX}, SOk K M X c N sc Wx → ∀ {l : List Stmt}, mS N sc s l = true → ∀ {v : Vw} {S : Store} {e : En} {σ : St} {D : Ends}, Sim K M v S → Fr K M X c v e σ →
  (∀ x i, c.cur = some (x, i) → i ∉ Ev.S.asg s) → PostS K M v Wx D (Ev.S.asg s) σ (dS c s e S) → WSx X l D σ v.H
structure AS (s : Ev.S) : Prop where
  one : isSeq s = false → SS1 K M s
  all : SSl K M s
end
theorem AS.of {s : Ev.S} (h : SS1 K M s) (hl : ∀ N sc l, mS N sc s l = true → ∃ st, l = [st]) : AS K M s := ⟨fun _ => h, by
  intro X c N sc Wx ok l hm v S e σ D sim fr hc hp
  obtain ⟨st, rfl⟩ := hl N sc l hm
  exact PSsw (pss_one psW) (h ok hm sim fr hc hp)⟩
theorem fr_off {X : L2.Cx} {c : Ev.Cx} {v : Vw} {e e' : En} {σ σ' : St} {l : List Nat} (fr : Fr K M X c v e σ) {v' : Vw} (n : Nx v v') (r : RepE K M v' e' σ') (o : Off l σ σ') (hc : ∀ x i, c.cur = some (x, i) → i ∉ l) : Fr K M X c v' e' σ' := ⟨r, fun x i h => by
  obtain ⟨a, oe, cls, d, h1, h2, h3, h4, h5⟩ := (fr.mono n).cur x i h
  exact ⟨a, oe, cls, d, h1, by rw [o.2 i (hc x i h)]; exact h2, h3, h4, h5⟩⟩

/-! ### blocks -/
theorem aS_nil : AS K M .nil := by
  constructor
  · intro _ X c N sc Wx ok st hm v S e σ D sim fr hc hp
    have h := hp.now sim σ fr.rep (Off.refl _ _)
    unfold mS at hm
    split at hm
    · rename_i e1
      cases e1
    · rename_i e1
      cases e1
      exact PSw ps_pass h
    · cases hm
  · intro X c N sc Wx ok l hm v S e σ D sim fr hc hp
    have h := hp.now sim σ fr.rep (Off.refl _ _)
    unfold mS at hm
    split at hm
    · exact PSsw pss_nil h
    · exact PSsw (pss_one ps_pass) h
    · cases hm
theorem off_app {l m : List Nat} {a b c : St} (x : Off l a b) (y : Off m b c) : Off (l ++ m) a c := (x.mono fun k h => List.mem_append_left _ h).trans (y.mono fun k h => List.mem_append_right _ h)
theorem aS_seq {a b : Ev.S} (ha : AS K M a) (hb : AS K M b) : AS K M (.seq a b) := by
  have step : ∀ {X : L2.Cx} {c : Ev.Cx} {N : List Str} {sc : Scope} {Wx : WX}, SOk K M X c N sc Wx → isSeq a = false → ∀ {st : Stmt} {r : List Stmt}, mS N sc a [st] = true → mS N sc b r = true → ∀ {v : Vw} {S : Store} {e : En} {σ : St} {D : Ends}, Sim K M v S → Fr K M X c v e σ →
      (∀ x i, c.cur = some (x, i) → i ∉ Ev.S.asg (.seq a b)) → PostS K M v Wx D (Ev.S.asg (.seq a b)) σ (dS c (.seq a b) e S) → WS1 X st { D with nx := WSx X r D } σ v.H := by
    intro X c N sc Wx ok h0 st r h1 h2 v S e σ D sim fr hc hp
    simp only [Ev.S.asg, List.mem_append, not_or] at hc
    refine ha.one h0 ok h1 sim fr (fun x i h => (hc x i h).1) ?_
    simp only [dS, Ev.S.asg] at hp
    cases hr : dS c a e S with
    | no => rw [hr] at hp; exact hp
    | err x S' =>
      rw [hr] at hp
      exact fun cls d v' n s r σ' o => hp cls d v' n s r σ' (o.mono fun k h => List.mem_append_left _ h)
    | ok f S' =>
      rw [hr] at hp
      intro v' n s
      cases f with
      | nx e' =>
        intro σ' re of
        refine hb.all ok h2 s (fr_off fr n re of fun x i h => (hc x i h).1) (fun x i h => (hc x i h).2) ?_
        exact hp.shift n fun σ'' o => off_app of o
      | rt w => exact hp v' n s
      | bk e' => exact fun σ' re of => hp v' n s σ' re (of.mono fun k h => List.mem_append_left _ h)
      | ct e' => exact fun σ' re of => hp v' n s σ' re (of.mono fun k h => List.mem_append_left _ h)
  refine ⟨fun h => absurd h Bool.noConfusion, ?_⟩
  intro X c N sc Wx ok l hm v S e σ D sim fr hc hp
  cases l with
  | nil => cases hm
  | cons st r =>
    simp only [mS, Bool.and_eq_true, Bool.not_eq_true'] at hm
    exact PSsw (pss_cons psW pssW) (step ok hm.1.1 hm.1.2 hm.2 sim fr hc hp)
end
end Ev
end

section
set_option linter.all false
set_option autoImplicit false
/-! EvS16: small statements. -/
namespace Ev
open PySem L2
section
variable {K : PySem.W.Frag} {M : Names}
theorem sw_non {e : Expr} {t : Option Expr} {n : Nat} {env : Env} (h : okE e = true) (hl : isLC e = false) : swapsWith e t n env = pure false := by
  cases e <;> first | rfl | (exact absurd h Bool.false_ne_true) | (exact absurd hl Bool.noConfusion)
theorem swS_non {e t : Expr} {n : Nat} {env : Env} (h : okE e = true) (hl : isLC e = false) : swapsWithSole [t] e n env = pure false := sw_non h hl
theorem sw_ok {e : Expr} (h : swOk e = true) : okE e = true ∧ isLC e = false := by
  unfold swOk at h
  simp only [Bool.and_eq_true, Bool.not_eq_true'] at h
  exact h
theorem aS_ex {x : E} (hx : SE K M x) : AS K M (.ex x) := by
  refine .of ?_ ?_
  · intro X c N sc Wx ok st hm v S e σ D sim fr hc hp
    simp only [mS] at hm
    split at hm
    · rename_i e' p el
      cases el
      simp only [Bool.and_eq_true] at hm
      obtain ⟨h1, h2⟩ := sw_ok hm.1
      refine PSw (ps_expr (te := WEx X e') peW (sw_non h1 h2)) ?_
      simp only [dS] at hp
      refine hx ok.toOk hm.2 h1 sim fr (hp.bind.imp fun w S1 v1 n1 s1 hp1 y ry => ?_)
      exact hp1.now s1 σ (fr.rep.mono n1) (Off.refl _ _)
    · cases hm
  · intro N sc l h
    simp only [mS] at h
    split at h
    · exact ⟨_, rfl⟩
    · cases h
theorem aS_ret {x : E} (hx : SE K M x) : AS K M (.ret x) := by
  refine .of ?_ ?_
  · intro X c N sc Wx ok st hm v S e σ D sim fr hc hp
    simp only [mS] at hm
    simp only [dS] at hp
    split at hm
    · rename_i e' p el
      cases el
      simp only [Bool.and_eq_true] at hm
      refine PSw (ps_ret (te := WEx X e') peW) ?_
      refine hx ok.toOk hm.2 hm.1 sim fr (hp.bind.imp fun w S1 v1 n1 s1 hp1 y ry => ?_)
      exact hp1.now s1 y ry
    · rename_i p el
      cases el
      split at hm
      · refine PSw ps_retN ?_
        simp only [dX, tst_f, R.bind_ok] at hp
        exact hp.now sim .non (by simp [RepW, Rep])
      · cases hm
    · cases hm
  · intro N sc l h
    simp only [mS] at h
    split at h
    · exact ⟨_, rfl⟩
    · exact ⟨_, rfl⟩
    · cases h
theorem aS_if {q : E} {a b : Ev.S} (hq : ST K M q) (ha : AS K M a) (hb : AS K M b) : AS K M (.if_ q a b) := by
  refine .of ?_ ?_
  · intro X c N sc Wx ok st hm v S e σ D sim fr hc hp
    simp only [mS] at hm
    simp only [dS, Ev.S.asg] at hp
    simp only [Ev.S.asg, List.mem_append, not_or] at hc
    split at hm
    · rename_i t' l r p el
      cases el
      simp only [Bool.and_eq_true] at hm
      obtain ⟨⟨⟨h1, h2⟩, h3⟩, h4⟩ := hm
      refine PSw (ps_if (tc := WTx X t') (t := WSx X l) (u := WSx X r) ptW pssW pssW) ?_
      refine (hq ok.toOk h2 h1 sim fr (hp.bind.imp fun d S1 v1 n1 s1 hp1 => ?_)).2
      cases d with
      | true =>
        simp only [if_true] at hp1 ⊢
        exact ha.all ok h3 s1 (fr.mono n1) (fun x i h => (hc x i h).1) (hp1.shift (Nx.refl _) fun σ'' o => o.mono fun k h => List.mem_append_left _ h)
      | false =>
        simp only [Bool.false_eq_true, if_false] at hp1 ⊢
        exact hb.all ok h4 s1 (fr.mono n1) (fun x i h => (hc x i h).2) (hp1.shift (Nx.refl _) fun σ'' o => o.mono fun k h => List.mem_append_right _ h)
    · cases hm
  · intro N sc l h
    simp only [mS] at h
    split at h
    · exact ⟨_, rfl⟩
    · cases h

/-! ### stores -/
theorem locC_loc {sc : Scope} {x : Str} (h : locC sc x = true) : L2.Loc sc x := by
  unfold locC at h
  unfold L2.Loc
  split at h
  · exact .inl (by assumption)
  · exact .inr (by assumption)
  · cases h
theorem locB_loc {sc : Scope} {x : Str} (h : locB sc x = true) : sc.names.lookup x = some .local := by
  unfold locB at h
  split at h
  · assumption
  · cases h
theorem RepE.set {v : Vw} {e : En} {σ : St} {i : Nat} {w : W} {y : V} (h : RepE K M v e σ) (hi : i < e.length) (r : RepW K M v w y) : RepE K M v (e.set i (some w)) (σ.set i (some y)) :=
  RepE.ofJ ((RepE.toJ (J := fun _ => False) h).set hi r) fun k hk => hk.1
theorem off_set {σ : St} {i : Nat} {x : Option V} : Off [i] σ (σ.set i x) := ⟨by simp, fun k hk => by rw [List.getElem?_set_ne (by simpa [eq_comm] using hk)]⟩
/-- a comprehension, stored in a name: on one line -/
theorem set_lc {X : L2.Cx} {c : Ev.Cx} {N : List Str} {sc : Scope} {Wx : WX} (ok : SOk K M X c N sc Wx) {i : Nat} {y : Str} {py q : Pos} {x : E} {elt : E} {t : T} {it : Ev.It} {ifs : Es} (hit : SI K M it) (he : SE K M elt) (hts : STs K M ifs) {tg' i' e' : Expr} {l : List Expr} {a : Int} {scope : Scope} {pos : Pos}
    (h1 : N[i]? = some y) (hl : lcSet sc y py q.line (.ListComp e' [⟨tg', i', l, a⟩] scope pos) = true) (hm : mE N sc (.lc elt t it ifs) (.ListComp e' [⟨tg', i', l, a⟩] scope pos) = true) {v : Vw} {S : Store} {e : En} {σ : St} {D : Ends} (sim : Sim K M v S) (fr : Fr K M X c v e σ)
    (h : PostQ K M v (fun cls d H => Wx cls d σ H) (fun y H => D.nx (σ.set i (some y)) H) (dX c (.lc elt t it ifs) false e S)) : WS1 X (.Assign [.Name y py] (.ListComp e' [⟨tg', i', l, a⟩] scope pos) q) D σ v.H := by
  simp only [lcSet, Bool.and_eq_true, beq_iff_eq] at hl
  obtain ⟨⟨hb, hln⟩, hno⟩ := hl
  have hp : Post K M v (fun cls d H => Wx cls d σ H) (fun ws _ v' => ∀ a xs, v'.H a = none → RepWs K M v' ws xs → xs.length ≤ sizeLine → D.nx (σ.set i (some (V.ref a))) (upd v'.H a (.lst xs))) (dL c (.lc elt t it ifs) e S) := by
    simp only [dX, tst_f] at h
    simp only [dL]
    split at h
    · exact h.elim
    · rename_i hcm
      rw [if_neg hcm]
      have assoc : ∀ {α β γ : Type} (r : R α) (f : α → Store → R β) (g : β → Store → R γ), (r.bind f).bind g = r.bind fun a S => (f a S).bind g := by
        intro α β γ r f g
        cases r <;> rfl
      rw [← assoc] at h
      exact h.bind.imp fun l S1 v1 n1 s1 h1 a xs ha rx hz => (post_new h1 s1 rx).2 a ha
  obtain ⟨rfl, g⟩ := lc_go (Q := fun y H => D.nx (σ.set i (some y)) H) hit he hts ok.toOk hm sim fr hp
  have hloc : X.env.scope.names.lookup y = some .local := by rw [ok.hs]; exact locB_loc hb
  refine PSw (ps_setLc g.calm g.nd (by rw [ok.hN]; exact h1) hloc (sw_true ok.kind hloc (by rw [hln]; exact beq_self_eq_true _) hno) piW g.blk g.pg g.pt g.pe g.fold) ?_
  exact g.go
theorem aS_set {t : T} {x : E} (hx : AE K M x) (hlc : ∀ elt tg it ifs, x = .lc elt tg it ifs → SI K M it ∧ SE K M elt ∧ STs K M ifs) : AS K M (.set t x) := by
  refine .of ?_ ?_
  · intro X c N sc Wx ok st hm v S e σ D sim fr hc hp
    simp only [mS] at hm
    simp only [dS, Ev.S.asg] at hp
    split at hp
    · exact hp.elim
    · rename_i hcm
      split at hm
      · rename_i y p e' q el
        cases el
        simp only [Bool.and_eq_true] at hm
        obtain ⟨⟨⟨g1, g2⟩, g3⟩, g4⟩ := hm
        have ht : ∃ i, t = .n i ∧ N[i]? = some y ∧ locC sc y = true := by
          cases t with
          | n i =>
            simp only [mT, Bool.and_eq_true, decide_eq_true_eq] at g2
            exact ⟨i, rfl, g2.1.1, g2.1.2⟩
          | t ts => cases g2
        obtain ⟨i, rfl, hi, hl⟩ := ht
        have fin : PostQ K M v (fun cls d H => Wx cls d σ H) (fun y H => D.nx (σ.set i (some y)) H) (dX c x false e S) := hp.bind.imp fun w S1 v1 n1 s1 hp1 y ry => by
          simp only [T.put] at hp1
          split at hp1
          · rename_i e2 e1
            split at e1
            · rename_i hi2
              cases e1
              exact hp1.now s1 _ ((fr.rep.mono n1).set hi2 ry) off_set
            · cases e1
          · exact hp1.elim
        cases hlce : isLC e' with
        | true =>
          cases e' <;> first | (cases hlce; done) | skip
          rename_i elt' gs scope pos
          cases x <;> first | (cases g3; done) | skip
          · rename_i o a
            cases o <;> simp [mE] at g3
          · rename_i o a b
            cases o <;> simp [mE, mBC] at g3
          · rename_i elt tg it ifs
            obtain ⟨k1, k2, k3⟩ := hlc elt tg it ifs rfl
            have hgs : ∃ tg' i' l a, gs = [⟨tg', i', l, a⟩] := by
              simp only [mE] at g3
              split at g3
              · rename_i e1
                cases e1
                exact ⟨_, _, _, _, rfl⟩
              · cases g3
            obtain ⟨tg', i', l, a, rfl⟩ := hgs
            exact set_lc ok (x := .k .non) k1 k2 k3 hi g4 g3 sim fr fin
        | false =>
          refine PSw (ps_set (te := WEx X e') (by rw [ok.hN]; exact ok.nd) (by rw [ok.hN]; exact hi) (by rw [ok.hs]; exact locC_loc hl) peW (sw_non g1 hlce) (.inl (ok.fn _))) ?_
          exact hx.e ok.toOk g3 g1 sim fr fin
      · rename_i es k p e' q el
        cases el
        simp only [Bool.and_eq_true] at hm
        obtain ⟨⟨⟨g1, g0⟩, g2⟩, g3⟩ := hm
        obtain ⟨g1, gl⟩ := sw_ok g1
        have hcm : c.calm = true := by
          cases t with
          | n i => cases g2
          | t ts => simpa [T.tup] using hcm
        refine PSw (ps_asg (te := WEx X e') (g := gT K t) peW (pgT ok.hK ok.hN ok.hs ok.nd (ok.calm hcm) t _ g2 fun i _ x _ => .inl (ok.fn x)) (swS_non g1 gl) ?_ rfl) ?_
        · cases e' <;> first | rfl | (exact absurd g0 Bool.false_ne_true)
        · refine hx.e ok.toOk g3 g1 sim fr (hp.bind.imp fun w S1 v1 n1 s1 hp1 y ry => ?_)
          split at hp1
          · rename_i e2 e1
            exact put_T t w y e e2 σ (fun _ => False) e1 ry (RepE.toJ (fr.rep.mono n1)) fun σ' rj of => hp1.now s1 σ' (RepE.ofJ rj fun k hk => hk.1) of
          · exact hp1.elim
      · cases hm
  · intro N sc l h
    simp only [mS] at h
    split at h
    · exact ⟨_, rfl⟩
    · exact ⟨_, rfl⟩
    · cases h
theorem RepWF.putF {v : Vw} {f : String} {w : W} {y : V} : ∀ {fs : List (String × W)} {gs : List (Str × V)}, RepWF K M v fs gs → RepW K M v w y → RepWF K M v (Ev.putF f w fs) (L2.putF (sx f) y gs)
  | [], _, r, ry => by
    cases r
    exact ⟨y, [], rfl, ry, rfl⟩
  | (g, u) :: fs, _, r0, ry => by
    obtain ⟨z, zs, rfl, r, q⟩ := r0
    simp only [Ev.putF, L2.putF]
    by_cases h : g = f
    · subst h
      simp only [beq_self_eq_true, if_true]
      exact ⟨y, zs, rfl, ry, q⟩
    · have hb : (g == f) = false := by simpa using h
      have hs : ¬ sx g = sx f := fun e => h (sx_inj e)
      rw [hb, if_neg hs]
      exact ⟨z, _, rfl, r, RepWF.putF q ry⟩
theorem RepWF.len {v : Vw} : ∀ {l : List (String × W)} {gs : List (Str × V)}, RepWF K M v l gs → gs.length = l.length
  | [], _, r => by cases r; rfl
  | (_, _) :: _, _, ⟨y, ys, e, _, q⟩ => by subst e; simp [RepWF.len q]
theorem aS_setA {o x : E} {f : String} (ho : SE K M o) (hx : SE K M x) : AS K M (.setA o f x) := by
  refine .of ?_ ?_
  · intro X c N sc Wx ok st hm v S e σ D sim fr hc hp
    simp only [mS] at hm
    simp only [dS, Ev.S.asg] at hp
    split at hp
    · exact hp.elim
    · rename_i hcm
      split at hm
      · rename_i b g p e' q el
        cases el
        simp only [Bool.and_eq_true, decide_eq_true_eq, Bool.not_eq_true'] at hm
        obtain ⟨⟨⟨⟨⟨g1, gl⟩, rfl⟩, g2⟩, g3⟩, g4⟩ := hm
        refine PSw (ps_fld (ta := WEx X b) (tv := WEx X e') peW peW (sw_non g1 gl)) ?_
        refine hx ok.toOk g4 g1 sim fr (hp.bind.imp fun w S1 v1 n1 s1 hp1 y ry => ?_)
        refine ho ok.toOk g3 g2 s1 (fr.mono n1) (hp1.bind.imp fun u S2 v2 n2 s2 hp2 z rz => ?_)
        split at hp2
        · rename_i n
          split at hp2
          · rename_i C fs e0
            split at hp2
            · rename_i hf
              simp only [Bool.and_eq_true, decide_eq_true_eq] at hf
              obtain ⟨hn, rfl⟩ := rz
              obtain ⟨dx, gs, e1, r⟩ := s2.ob n _ e0
              obtain ⟨i1, i2⟩ := ok.fldI C f hf.1
              refine ⟨_, M.cls C, dx, gs, rfl, e1, by rw [ok.hK]; exact i1, by rw [ok.hK]; exact i2, by rw [r.len]; exact hf.2, ?_⟩
              have gg : Nx v2 (v2.put (v2.ρ n) (.ins (M.cls C) dx (L2.putF (sx f) y gs))) := Nx.write hn
              exact hp2 _ gg (s2.write hn ⟨dx, _, upd_same, (RepWF.putF r (ry.mono n2)).mono gg⟩) σ (((fr.rep.mono n1).mono n2).mono gg) (Off.refl _ _)
            · exact hp2.elim
          · exact hp2.elim
        · exact hp2.elim
      · cases hm
  · intro N sc l h
    simp only [mS] at h
    split at h
    · exact ⟨_, rfl⟩
    · cases h
theorem aS_setI {o i x : E} (ho : SE K M o) (hi : SE K M i) (hx : SE K M x) : AS K M (.setI o i x) := by
  refine .of ?_ ?_
  · intro X c N sc Wx ok st hm v S e σ D sim fr hc hp
    simp only [mS] at hm
    simp only [dS, Ev.S.asg] at hp
    split at hp
    · exact hp.elim
    · rename_i hcm
      split at hm
      · rename_i b j p e' q el
        cases el
        simp only [Bool.and_eq_true, decide_eq_true_eq, Bool.not_eq_true'] at hm
        obtain ⟨⟨⟨⟨⟨⟨⟨g1, gl⟩, g2⟩, g3⟩, gs⟩, g4⟩, g5⟩, g6⟩ := hm
        refine PSw (ps_asg (te := WEx X e') peW (pg_sub (to := WEx X b) (ti := WEx X j) peW peW set_list ?_) (swS_non g1 gl) rfl rfl) ?_
        · intro w
          cases j <;> first | rfl | (exact absurd gs Bool.noConfusion)
        · refine hx ok.toOk g6 g1 sim fr (hp.bind.imp fun w S1 v1 n1 s1 hp1 y ry => ?_)
          refine ho ok.toOk g4 g2 s1 (fr.mono n1) (hp1.bind.imp fun u S2 v2 n2 s2 hp2 z rz => ?_)
          refine hi ok.toOk g5 g3 s2 ((fr.mono n1).mono n2) (hp2.bind.imp fun k S3 v3 n3 s3 hp3 z' rz' => ?_)
          split at hp3
          · rename_i n kk
            split at hp3
            · rename_i ws e0
              split at hp3
              · rename_i jj ej
                obtain ⟨hn, rfl⟩ := rz
                have hn3 : n < v3.n := Nat.lt_of_lt_of_le hn n3.le
                obtain ⟨xs, e1, r⟩ := s3.ob n _ e0
                simp only [RepW, Rep] at rz'
                subst rz'
                rw [← n3.ρ n hn]
                refine ⟨_, xs, kk, jj, rfl, rfl, e1, by rw [r.len, ixN_eq]; exact ej, ?_⟩
                have gg : Nx v3 (v3.put (v3.ρ n) (.lst (xs.set jj y))) := Nx.write hn3
                exact hp3 _ gg (s3.write hn3 ⟨_, upd_same, (r.set jj ((ry.mono n2).mono n3)).mono gg⟩) σ ((((fr.rep.mono n1).mono n2).mono n3).mono gg) (Off.refl _ _)
              · exact hp3.elim
            · exact hp3.elim
          · exact hp3.elim
      · cases hm
  · intro N sc l h
    simp only [mS] at h
    split at h
    · exact ⟨_, rfl⟩
    · cases h
theorem aug_add {w u z : W} (h : augW .add w u = some z) : ∃ i j, w = .d (.int i) ∧ u = .d (.int j) ∧ z = .d (.int (i + j)) := by
  cases w with
  | r n => simp [augW] at h
  | d a =>
    cases u with
    | r n => simp [augW] at h
    | d b =>
      cases a <;> cases b <;> simp [augW] at h
      exact ⟨_, _, rfl, rfl, h.symm⟩
theorem aug_sub {w u z : W} (h : augW .sub w u = some z) : ∃ i j, w = .d (.int i) ∧ u = .d (.int j) ∧ z = .d (.int (i - j)) := by
  cases w with
  | r n => simp [augW] at h
  | d a =>
    cases u with
    | r n => simp [augW] at h
    | d b =>
      cases a <;> cases b <;> simp [augW] at h
      exact ⟨_, _, rfl, rfl, h.symm⟩
theorem aS_aug {i : Nat} {o : O2} {x : E} (hx : SE K M x) : AS K M (.aug i o x) := by
  refine .of ?_ ?_
  · intro X c N sc Wx ok st hm v S e σ D sim fr hc hp
    simp only [mS] at hm
    simp only [dS, Ev.S.asg] at hp
    split at hp
    · exact hp.elim
    · rename_i hcm
      split at hm
      · rename_i y p op e' q el
        cases el
        simp only [Bool.and_eq_true, decide_eq_true_eq, Bool.or_eq_true, beq_iff_eq] at hm
        obtain ⟨⟨⟨⟨⟨⟨h0, g0⟩, g1⟩, g2⟩, g3⟩, g4⟩, g5⟩ := hm
        split at hp
        · rename_i w ew
          obtain ⟨y0, hy0, ry0⟩ := fr.rep.2 i w ew
          have hi : i < e.length := getX ew
          have go : ∀ {ti : TIp}, PIp X op ti → (∀ {v1 : Vw} {S1 : Store} {u z : W} {y1 : V}, Nx v v1 → Sim K M v1 S1 → RepW K M v1 u y1 → augW o w u = some z → PostS K M v1 Wx D [i] σ (.ok (.nx (e.set i (some z))) S1) → ti y0 y1 v1.H fun z H2 => D.nx (σ.set i (some z)) H2) →
              WS1 X (.AugAssign (.Name y p) op e' q) D σ v.H := by
            intro ti hop hti
            refine PSw (ps_aug (te := WEx X e') (by rw [ok.hN]; exact ok.nd) (by rw [ok.hN]; exact g1) (by rw [ok.hs]; exact locC_loc g3) peW hop (.inl (ok.fn _))) ?_
            refine ⟨y0, hy0, ?_⟩
            refine hx ok.toOk g5 g4 sim fr (hp.bind.imp fun u S1 v1 n1 s1 hp1 y1 ry1 => ?_)
            split at hp1
            · rename_i z ez
              exact hti n1 s1 ry1 ez hp1
            · exact hp1.elim
          rcases h0 with rfl | rfl
          · cases op <;> first | (cases g0; done) | skip
            refine go ip_add fun {v1 S1 u z y1} n1 s1 ry1 ez hp1 => ?_
            obtain ⟨a, b, rfl, rfl, rfl⟩ := aug_add ez
            simp only [RepW, Rep] at ry0 ry1
            subst ry0 ry1
            exact ⟨_, _, rfl, rfl, hp1.now s1 _ ((fr.rep.mono n1).set hi (by simp [RepW, Rep])) off_set⟩
          · cases op <;> first | (cases g0; done) | skip
            refine go ip_sub fun {v1 S1 u z y1} n1 s1 ry1 ez hp1 => ?_
            obtain ⟨a, b, rfl, rfl, rfl⟩ := aug_sub ez
            simp only [RepW, Rep] at ry0 ry1
            subst ry0 ry1
            exact ⟨_, _, rfl, rfl, hp1.now s1 _ ((fr.rep.mono n1).set hi (by simp [RepW, Rep])) off_set⟩
        · exact hp.elim
      · cases hm
  · intro N sc l h
    simp only [mS] at h
    split at h
    · exact ⟨_, rfl⟩
    · cases h
end
end Ev
end

section
set_option linter.all false
set_option autoImplicit false
/-! EvS17: loops, raise, try. -/
namespace Ev
open PySem L2
section
variable {K : PySem.W.Frag} {M : Names}
theorem aS_for {t : T} {it : Ev.It} {b : Ev.S} (hit : SI K M it) (hb : AS K M b) : AS K M (.for_ t it b) := by
  refine .of ?_ ?_
  · intro X c N sc Wx ok st hm v S e σ D sim fr hc hp
    simp only [mS] at hm
    simp only [dS, Ev.S.asg] at hp
    split at hp
    · exact hp.elim
    · rename_i hcm
      have hcm : c.calm = true := by simpa using hcm
      split at hm
      · rename_i tg' i l p el
        cases el
        simp only [Bool.and_eq_true] at hm
        obtain ⟨⟨⟨g1, g2⟩, g3⟩, g4⟩ := hm
        have hcx := ok.calm hcm
        refine PSw (ps_for (wi := WIx X tg' i) (g := gT K t) (tb := WSx X l) (ok.hp hcm) hcx piW (pgT ok.hK ok.hN ok.hs ok.nd hcx t tg' g3 fun i _ x _ => .inl (ok.fn x)) pssW (notFolded g1)) ?_
        refine hit ok.toOk g2 sim fr (hp.bind.imp fun p S1 v1 n1 s1 hp1 J wk => ?_)
        obtain ⟨tvs, g⟩ := p
        simp only at hp1 wk
        generalize hf : (fun (tv : TV) (e : En) (S : Store) => (match TV.put t tv e with
          | some e' => dS c b e' S
          | none => R.no : R Fl)) = f at hp1
        refine ⟨fun i m σ' H => i ≤ tvs.length ∧ m = tvs.length - i ∧ ∃ (u : Vw) (S : Store) (e' : En), H = u.H ∧ Nx v1 u ∧ Sim K M u S ∧ RepE K M u e' σ' ∧ Off (T.ix t ++ Ev.S.asg b) σ σ' ∧ PostS K M v1 Wx D (T.ix t ++ Ev.S.asg b) σ (forLoop f g (tvs.drop i) e' S),
          ⟨tvs.length, Nat.zero_le _, rfl, v1, S1, e, rfl, Nx.refl v1, s1, fr.rep.mono n1, Off.refl _ _, hp1⟩, ?_⟩
        rintro i m σ' H ⟨hi, rfl, u, S2, e1, rfl, nu, su, re, of, hq⟩
        rcases Nat.lt_or_ge i tvs.length with hlt | hge
        · right
          have hd : tvs.drop i = tvs[i] :: tvs.drop (i + 1) := List.drop_eq_getElem_cons hlt
          rw [hd] at hq
          simp only [forLoop] at hq
          split at hq
          · rename_i hg
            obtain ⟨hgo, hy⟩ := wk.go u S2 i tvs[i] nu su hg (List.getElem?_eq_getElem hlt)
            refine ⟨hgo, fun σ' H => i + 1 ≤ tvs.length ∧ tvs.length - i - 1 = tvs.length - (i + 1) ∧ ∃ (u : Vw) (S : Store) (e' : En), H = u.H ∧ Nx v1 u ∧ Sim K M u S ∧ RepE K M u e' σ' ∧ Off (T.ix t ++ Ev.S.asg b) σ σ' ∧ PostS K M v1 Wx D (T.ix t ++ Ev.S.asg b) σ (forLoop f g (tvs.drop (i + 1)) e' S),
              fun σ' H' q => ⟨tvs.length - i - 1, by omega, q⟩, fun x H' yy => ?_⟩
            obtain ⟨v2, rfl, n2, s2, r2⟩ := hy x H' yy
            have fe : f tvs[i] e1 S2 = (match TV.put t tvs[i] e1 with
              | some e' => dS c b e' S2
              | none => R.no : R Fl) := by rw [← hf]
            rw [fe] at hq
            cases hput : TV.put t tvs[i] e1 with
            | none => rw [hput] at hq; exact hq.elim
            | some e2 =>
              rw [hput] at hq
              simp only at hq
              refine put_TV hput r2 (RepE.toJ (J := fun _ => False) (re.mono n2)) fun σ2 rj of2 => ?_
              have re2 : RepE K M v2 e2 σ2 := RepE.ofJ rj fun k hk => hk.1
              have offA : ∀ {τ : St}, Off (Ev.S.asg b) σ2 τ → Off (T.ix t ++ Ev.S.asg b) σ τ := fun o => (of.trans (of2.mono fun k h => List.mem_append_left _ h)).trans (o.mono fun k h => List.mem_append_right _ h)
              refine hb.all ok g4 s2 ⟨re2, fun x i h => by rw [ok.cm hcm] at h; cases h⟩ (fun x i h => by rw [ok.cm hcm] at h; cases h) ?_
              cases hr : dS c b e2 S2 with
              | no => rw [hr] at hq; exact hq.elim
              | err x S3 =>
                rw [hr] at hq
                exact fun cls d v' n s r τ o => hq cls d v' (nu.trans (n2.trans n)) s r τ (offA o)
              | ok fl S3 =>
                rw [hr] at hq
                intro v3 n3 s3
                have n13 := nu.trans (n2.trans n3)
                cases fl with
                | nx e3 => exact fun τ r o => ⟨hlt, by omega, v3, S3, e3, rfl, n13, s3, r, offA o, hq⟩
                | ct e3 => exact fun τ r o => ⟨hlt, by omega, v3, S3, e3, rfl, n13, s3, r, offA o, hq⟩
                | bk e3 => exact fun τ r o => hq v3 n13 s3 τ r (offA o)
                | rt w => exact hq v3 n13 s3
          · exact hq.elim
        · left
          have hd : tvs.drop i = [] := List.drop_eq_nil_of_le hge
          rw [hd] at hq
          simp only [forLoop] at hq
          split at hq
          · rename_i hg
            exact ⟨wk.stop u S2 i nu su hg hge, hq u nu su σ' re of⟩
          · exact hq.elim
      · cases hm
  · intro N sc l h
    simp only [mS] at h
    split at h
    · exact ⟨_, rfl⟩
    · cases h
theorem aS_while {q : E} {b : Ev.S} (hq : ST K M q) (hb : AS K M b) : AS K M (.while_ q b) := by
  refine .of ?_ ?_
  · intro X c N sc Wx ok st hm v S e σ D sim fr hc hp
    simp only [mS] at hm
    simp only [dS, Ev.S.asg] at hp
    split at hp
    · exact hp.elim
    · rename_i hcm
      have hcm : c.calm = true := by simpa using hcm
      split at hm
      · rename_i t' l p el
        cases el
        simp only [Bool.and_eq_true] at hm
        obtain ⟨⟨g1, g2⟩, g3⟩ := hm
        refine PSw (ps_while (tc := WTx X t') (tb := WSx X l) (ok.hp hcm) ptW pssW) ?_
        refine ⟨fun m σ' H => ∃ (u : Vw) (S : Store) (e' : En), H = u.H ∧ Nx v u ∧ Sim K M u S ∧ RepE K M u e' σ' ∧ Off (Ev.S.asg b) σ σ' ∧ PostS K M v Wx D (Ev.S.asg b) σ (whileLoop (fun e S => dT c q e S) (fun e S => dS c b e S) m e' S),
          ⟨c.fuel, v, S, e, rfl, Nx.refl v, sim, fr.rep, Off.refl _ _, hp⟩, ?_⟩
        rintro m σ' H ⟨u, S2, e1, rfl, nu, su, re, of, hq2⟩
        cases m with
        | zero => exact hq2.elim
        | succ n =>
          simp only [whileLoop] at hq2
          have fr1 : Fr K M X c u e1 σ' := ⟨re, fun x i h => by rw [ok.cm hcm] at h; cases h⟩
          refine (hq ok.toOk g2 g1 su fr1 ?_).2
          cases ht : dT c q e1 S2 with
          | no => rw [ht] at hq2; exact hq2.elim
          | err x S3 =>
            rw [ht] at hq2
            exact fun cls d v' n s r => hq2 cls d v' (nu.trans n) s r σ' of
          | ok t S3 =>
            rw [ht] at hq2
            intro v3 n3 s3
            cases t with
            | false =>
              simp only [Bool.false_eq_true, if_false]
              exact hq2 v3 (nu.trans n3) s3 σ' (re.mono n3) of
            | true =>
              simp only [if_true] at hq2 ⊢
              refine ⟨fun σ' H => ∃ (u : Vw) (S : Store) (e' : En), H = u.H ∧ Nx v u ∧ Sim K M u S ∧ RepE K M u e' σ' ∧ Off (Ev.S.asg b) σ σ' ∧ PostS K M v Wx D (Ev.S.asg b) σ (whileLoop (fun e S => dT c q e S) (fun e S => dS c b e S) n e' S),
                fun σ' H' w => ⟨n, Nat.lt_succ_self n, w⟩, ?_⟩
              refine hb.all ok g3 s3 (fr1.mono n3) (fun x i h => by rw [ok.cm hcm] at h; cases h) ?_
              cases hr : dS c b e1 S3 with
              | no => rw [hr] at hq2; exact hq2.elim
              | err x S4 =>
                rw [hr] at hq2
                exact fun cls d v' n s r τ o => hq2 cls d v' (nu.trans (n3.trans n)) s r τ (of.trans o)
              | ok fl S4 =>
                rw [hr] at hq2
                intro v4 n4 s4
                have n14 := nu.trans (n3.trans n4)
                cases fl with
                | nx e3 => exact fun τ r o => ⟨v4, S4, e3, rfl, n14, s4, r, of.trans o, hq2⟩
                | ct e3 => exact fun τ r o => ⟨v4, S4, e3, rfl, n14, s4, r, of.trans o, hq2⟩
                | bk e3 => exact fun τ r o => hq2 v4 n14 s4 τ r (of.trans o)
                | rt w => exact hq2 v4 n14 s4
      · cases hm
  · intro N sc l h
    simp only [mS] at h
    split at h
    · exact ⟨_, rfl⟩
    · cases h

/-! ### raise -/
def WMk (X : L2.Cx) (e : Expr) : St → Hp → XK → Prop := fun σ H Q => ∀ (pins : List (Addr × Obj)) (s : Shared), Inv X pins σ H s → wpAny (model X.prog X.w) X.A (eval e X.env) (MkP X pins σ Q) X.xe s
theorem aS_raise {C : String} {es : Es} (hs : SEs K M es) : AS K M (.raise C es) := by
  refine .of ?_ ?_
  · intro X c N sc Wx ok st hm v S e σ D sim fr hc hp
    simp only [mS] at hm
    simp only [dS, Ev.S.asg] at hp
    split at hp
    · exact hp.elim
    · rename_i hcm
      have hcm : c.calm = true := by simpa using hcm
      split at hm
      · rename_i x p l p2 p3 el
        cases el
        simp only [Bool.and_eq_true, decide_eq_true_eq] at hm
        obtain ⟨⟨⟨⟨rfl, g0⟩, g1⟩, g2⟩, g3⟩ := hm
        split at hp
        · rename_i ns hns
          obtain ⟨m1, m2⟩ := ok.exnG C ns hns
          have hcx := ok.calm hcm
          refine PSw (ps_raise (t := WMk X (.Call (.Name (sx C) p) l [] p2)) hcx ok.tk (fun pins s σ H Q I h => h pins s I)) ?_
          have fin : ∀ {ws : List W} {S1 : Store} {v1 : Vw} {vs : List V}, Nx v v1 → Sim K M v1 S1 → RepWs K M v1 ws vs → PostS K M v1 Wx D [] σ (if ns.length = ws.length then .err ⟨C, ns.zip ws⟩ S1 else .no) → ∀ (pins : List (Addr × Obj)) (s : Shared) (us : List Value), Inv X pins σ v1.H s → Vals vs us →
              wpAny (model X.prog X.w) X.A (PySem.call (.ref (M.cls C)) us) (MkP X pins σ fun cls d H' => Wx cls d σ H') X.xe s := by
            intro ws S1 v1 vs n1 s1 r hp1 pins s us I ru
            split at hp1
            · rename_i hlen
              exact ok.exnM X ⟨rfl, rfl, rfl, rfl, rfl, rfl⟩ hcx C ns ws S1 v1 vs us pins σ s _ hns s1 I r ru hlen fun cls d v' n s' rx => hp1 cls d v' n s' rx σ (Off.refl _ _)
            · exact hp1.elim
          intro pins s I
          refine wpAny_Call_Name_kw (ld_glob I (ok.gl g0) m1 ?_ (nm_d g1).1)
          cases l with
          | nil =>
            cases es with
            | nil =>
              simp only [dEs, R.bind_ok] at hp
              exact PySem.W.callWith_K0 I.kIn m2 (fin (ws := []) (vs := []) (Nx.refl v) sim rfl hp pins s [] I .nil)
            | cons _ _ => cases g2
            | star _ _ => cases g2
          | cons a l =>
            have main : WAx X (a :: l) σ v.H fun vs H1 => ∀ (pins : List (Addr × Obj)) (s : Shared) (us : List Value), Inv X pins σ H1 s → Vals vs us → wpAny (model X.prog X.w) X.A (PySem.call (.ref (M.cls C)) us) (MkP X pins σ fun cls d H' => Wx cls d σ H') X.xe s :=
              hs ok.toOk g2 sim fr (hp.bind.imp fun ws S1 v1 n1 s1 h1 vs rv => fin n1 s1 rv h1)
            refine PySem.W.callWith_K (h₀ := X.base) I.ok.mod.kin m2 (thn (main p2 pins s I) fun us s1 ⟨vs, H1, I1, r1, q1⟩ => ⟨I1.kIn, ?_⟩) (starHead g3) (starTail g3)
            exact q1 pins s1 us I1 r1
        · exact hp.elim
      · cases hm
  · intro N sc l h
    simp only [mS] at h
    split at h
    · exact ⟨_, rfl⟩
    · cases h

/-! ### try -/
theorem ok_tr {X : L2.Cx} {c : Ev.Cx} {N : List Str} {sc : Scope} {Wx W' : WX} (ok : SOk K M X c N sc Wx) {pn : List (Addr × Obj)} {xe : Value → Shared → Prop} (tk : Takes (X.tr pn xe) W') (hp : PassesOwn (model X.prog X.w) X.A X.env xe) : SOk K M (X.tr pn xe) c N sc W' where
  hK := ok.hK
  hN := ok.hN
  hs := ok.hs
  nd := ok.nd
  tk := tk
  room := ok.room
  calm := ok.calm
  blt := ok.blt
  glob := ok.glob
  fldI := ok.fldI
  fldX := ok.fldX
  cm := ok.cm
  call := fun X' g => ok.call X' ⟨g.1, g.2, g.3, g.4, g.5, g.6⟩
  callG := ok.callG
  callM := ok.callM
  make := fun X' g => ok.make X' ⟨g.1, g.2, g.3, g.4, g.5, g.6⟩
  makeG := ok.makeG
  isx := ok.isx
  hot := fun X' g => ok.hot X' ⟨g.1, g.2, g.3, g.4, g.5, g.6, g.7⟩
  hotG := ok.hotG
  hotE := ok.hotE
  mkx := fun hc X' g => ok.mkx hc X' ⟨g.1, g.2, g.3, g.4, g.5, g.6⟩
  mkxG := ok.mkxG
  fn := ok.fn
  kind := ok.kind
  hp := fun _ => hp
  stk := ok.stk
  frm := ok.frm
  exnG := ok.exnG
  exnM := fun X' g => ok.exnM X' ⟨g.1, g.2, g.3, g.4, g.5, g.6⟩
  sub := ok.sub
def suiteC (c : Ev.Cx) (x : Exn) (n : Option Nat) : Ev.Cx := { c with cur := n.map fun i => (x, i), calm := false, call := fun _ _ _ _ => .no, make := fun _ _ _ _ _ => .no, exn := fun _ => none }
theorem ok_suite {X : L2.Cx} {c : Ev.Cx} {N : List Str} {sc : Scope} {Wx : WX} (ok : SOk K M X c N sc Wx) {x : Exn} {n : Option Nat} {a : Addr} {pn : List (Addr × Obj)} : SOk K M (X.suite a pn) (suiteC c x n) N sc (fun _ _ _ _ => False) where
  hK := ok.hK
  hN := ok.hN
  hs := ok.hs
  nd := ok.nd
  tk := fun u s' ⟨a, B, sI, pins, σ, H, cls, d, e, I, nb, up, sky, na, os, ag, w⟩ => w.elim
  room := ok.room
  calm := fun h => Bool.noConfusion h
  blt := ok.blt
  glob := ok.glob
  fldI := ok.fldI
  fldX := ok.fldX
  cm := fun h => Bool.noConfusion h
  call := fun X' g Wx' _ C f ws S v vs us pins σ s Q _ _ _ _ h => h.elim
  callG := ok.callG
  callM := ok.callM
  make := fun X' g Wx' _ C n ks ws S v vs zs us zus pins σ s Q _ _ _ _ _ _ _ h => h.elim
  makeG := ok.makeG
  isx := ok.isx
  hot := fun X' g => ok.hot X' ⟨g.1, g.2, g.3, g.4, g.5, g.6, g.7⟩
  hotG := ok.hotG
  hotE := ok.hotE
  mkx := fun h => Bool.noConfusion h
  mkxG := fun C ns h => nomatch h
  fn := ok.fn
  kind := ok.kind
  hp := fun h => Bool.noConfusion h
  stk := ok.stk
  frm := ok.frm
  exnG := fun C ns h => nomatch h
  exnM := fun X' g hc C ns ws S v vs us pins σ s Q h => nomatch h
  sub := ok.sub
theorem forget_len (e : En) : ∀ l : List Nat, (forget e l).length = e.length
  | [] => rfl
  | i :: r => by simp [forget, forget_len e r]
theorem forget_get (e : En) : ∀ (l : List Nat) (k : Nat) (w : W), (forget e l)[k]? = some (some w) → k ∉ l ∧ e[k]? = some (some w)
  | [], k, w, h => ⟨by simp, h⟩
  | i :: r, k, w, h => by
    simp only [forget] at h
    by_cases hk : k = i
    · subst hk
      rw [List.getElem?_set] at h
      simp only [if_true] at h
      split at h <;> cases h
    · rw [List.getElem?_set_ne (Ne.symm hk)] at h
      obtain ⟨h1, h2⟩ := forget_get e r k w h
      exact ⟨by simp [hk, h1], h2⟩
theorem RepE.forget {v : Vw} {e : En} {σ σ' : St} {l : List Nat} (h : RepE K M v e σ) (o : Off l σ σ') : RepE K M v (forget e l) σ' := by
  refine ⟨by rw [forget_len, h.1, o.1], fun i w hi => ?_⟩
  obtain ⟨h1, h2⟩ := forget_get e l i w hi
  obtain ⟨y, h3, h4⟩ := h.2 i w h2
  exact ⟨y, by rw [o.2 i h1]; exact h3, h4⟩
end
end Ev
end

section
set_option linter.all false
set_option autoImplicit false
/-! EvS18: try; every statement. -/
namespace Ev
open PySem L2
section
variable {K : PySem.W.Frag} {M : Names}
theorem dS_try (c : Ev.Cx) (b : Ev.S) (C : String) (n : Option Nat) (h : Ev.S) (e : En) (S : Store) : dS c (.try_ b C n h) e S = if c.calm = false || (c.exn C).isNone || n.any (fun i => (Ev.S.asg h).contains i || decide (e.length ≤ i)) then .no else match dS c b e S with
    | .err x S1 => (match c.sub x.C C with
      | some true => (match dS (suiteC c x n) h (forget e (Ev.S.asg b ++ n.toList)) S1 with
        | .ok f S2 => .ok (f.drop n) S2
        | _ => .no)
      | some false => .err x S1
      | none => .no)
    | r => r := by
  simp only [dS]
  rfl
/-- what the body leaves, wished by what the clause takes -/
theorem try_body {X : L2.Cx} {c : Ev.Cx} {N : List Str} {sc : Scope} {Wx : WX} (ok : SOk K M X c N sc Wx) {b h : Ev.S} {C : String} {n : Option Nat} {v : Vw} {e : En} {σ : St} {S : Store} {D : Ends} {A : List Nat} (hA : ∀ k ∈ Ev.S.asg b, k ∈ A)
    (hp : PostS K M v Wx D A σ (match dS c b e S with
      | .err x S1 => (match c.sub x.C C with
        | some true => (match dS (suiteC c x n) h (forget e (Ev.S.asg b ++ n.toList)) S1 with
          | .ok f S2 => .ok (f.drop n) S2
          | _ => .no)
        | some false => .err x S1
        | none => .no)
      | r => r)) {W' : WX}
    (hyes : ∀ x S1 cls d v', Nx v v' → Sim K M v' S1 → RepX K M v' x cls d → ∀ σ', Off (Ev.S.asg b) σ σ' → PySem.W.exmOne X.K (.ref (M.cls x.C)) (.ref (M.cls C)) = some true →
      PostS K M v Wx D A σ (match dS (suiteC c x n) h (forget e (Ev.S.asg b ++ n.toList)) S1 with
          | .ok f S2 => .ok (f.drop n) S2
          | _ => .no) → W' cls d σ' v'.H)
    (hno : ∀ x cls d v', RepX K M v' x cls d → ∀ σ', PySem.W.exmOne X.K (.ref (M.cls x.C)) (.ref (M.cls C)) = some false → Wx cls d σ' v'.H → W' cls d σ' v'.H) :
    PostS K M v W' D (Ev.S.asg b) σ (dS c b e S) := by
  cases hr : dS c b e S with
  | no => rw [hr] at hp; exact hp
  | ok f S1 =>
    rw [hr] at hp
    intro v' n' s
    have q := hp v' n' s
    cases f with
    | nx e' => exact fun τ r o => q τ r (o.mono hA)
    | rt w => exact q
    | bk e' => exact fun τ r o => q τ r (o.mono hA)
    | ct e' => exact fun τ r o => q τ r (o.mono hA)
  | err x S1 =>
    rw [hr] at hp
    simp only at hp
    intro cls d v' n' s r σ' o
    split at hp
    · rename_i hs
      exact hyes x S1 cls d v' n' s r σ' o (ok.sub x.C C true hs) hp
    · rename_i hs
      exact hno x cls d v' r σ' (ok.sub x.C C false hs) (hp cls d v' n' s r σ' (o.mono hA))
    · exact hp.elim
theorem aS_try {b h : Ev.S} {C : String} {n : Option Nat} (hb : AS K M b) (hh : AS K M h) : AS K M (.try_ b C n h) := by
  refine .of ?_ ?_
  · intro X c N sc Wx ok st hm v S e σ D sim fr hc hp
    rw [dS_try] at hp
    simp only [mS] at hm
    split at hp
    · exact hp.elim
    · rename_i hcnd
      simp only [Bool.or_eq_true, not_or, Bool.not_eq_true] at hcnd
      obtain ⟨⟨hcm, hex⟩, hany⟩ := hcnd
      have hcm : c.calm = true := by simpa using hcm
      have hcur := ok.cm hcm
      have noCur : ∀ {P : Prop} {x : Exn} {i : Nat}, c.cur = some (x, i) → P := fun h => by rw [hcur] at h; cases h
      obtain ⟨ns, hns⟩ : ∃ ns, c.exn C = some ns := by
        cases hq : c.exn C with
        | none => rw [hq] at hex; cases hex
        | some ns => exact ⟨ns, rfl⟩
      obtain ⟨m1, m2⟩ := ok.exnG C ns hns
      split at hm
      · rename_i l x p m b₀ suite p2 p3 el
        cases el
        simp only [Bool.and_eq_true, decide_eq_true_eq] at hm
        obtain ⟨⟨⟨⟨⟨rfl, g0⟩, g1⟩, g2⟩, g3⟩, g4⟩ := hm
        have hnm : L2.Names X (sx C) (.ref (M.cls C)) := ⟨ok.gl g0, (nm_d g1).1, .inl m1⟩
        split at g4
        · -- except C:
          refine PSw (ps_try_only (c := .ref (M.cls C)) (Wout := Wx) (tb := fun W => fun D σ H => ∀ pn xe, Takes (X.tr pn xe) W → PassesOwn (model X.prog X.w) X.A X.env xe → WSx (X.tr pn xe) l D σ H)
            (ts := fun a cls d => fun D σ H => ∀ oe pn, Zc cls d oe → (∃ vs, oe.data = .fields vs) → WSx (X.suite a ((a, oe) :: pn)) (b₀ :: suite) D σ H) ok.stk ok.frm hnm ok.tk
            (fun W pn xe tk hpo => ⟨fun pins s σ H D I q => q pn xe tk hpo pins s I⟩) (fun a oe cls d pn hz hd => ⟨fun pins s σ H D I q => q oe pn hz hd pins s I⟩)) ?_
          intro pn xe tk hpo
          refine hb.all (ok_tr ok tk hpo) g2 sim ⟨fr.rep, fun x i h => noCur h⟩ (fun x i h => noCur h) ?_
          refine try_body ok (fun k hk => by simp [Ev.S.asg, hk]) hp (fun x S1 cls d v' n' s r σ' o hex hp' => ?_) (fun x cls d v' r σ' hex q => ?_)
          · refine ⟨true, by rw [r.1]; exact hex, fun _ a ha oe pn hz hd => ?_, fun z => Bool.noConfusion z⟩
            refine hh.all (ok_suite ok (x := x) (n := none)) g3 s ⟨?_, fun x i h => nomatch h⟩ (fun x i h => nomatch h) (S := S1) (e := forget e (Ev.S.asg b ++ [])) ?_
            · exact (fr.rep.mono n').forget (o.mono fun k hk => by simp [hk])
            · have hp' : PostS K M v Wx D (Ev.S.asg b ++ [] ++ Ev.S.asg h) σ (match dS (suiteC c x none) h (forget e (Ev.S.asg b ++ [])) S1 with
                | .ok f S2 => .ok (f.drop none) S2
                | _ => .no) := hp'
              cases hr : dS (suiteC c x none) h (forget e (Ev.S.asg b ++ [])) S1 with
              | no => rw [hr] at hp'; exact hp'.elim
              | err x S2 => rw [hr] at hp'; exact hp'.elim
              | ok f S2 =>
                rw [hr] at hp'
                intro v2 n2 s2
                have q := hp' v2 (n'.trans n2) s2
                have offA : ∀ {τ : St}, Off (Ev.S.asg h) σ' τ → Off (Ev.S.asg b ++ [] ++ Ev.S.asg h) σ τ := fun o2 => (o.mono fun k hk => by simp [hk]).trans (o2.mono fun k hk => by simp [hk])
                cases f with
                | nx e2 => exact fun τ r o2 => q τ r (offA o2)
                | rt w => exact q
                | bk e2 => exact fun τ r o2 => q τ r (offA o2)
                | ct e2 => exact fun τ r o2 => q τ r (offA o2)
          · exact ⟨false, by rw [r.1]; exact hex, fun z => Bool.noConfusion z, fun _ => q⟩
        · -- except C as y:
          rename_i i y
          simp only [Bool.and_eq_true, decide_eq_true_eq] at g4
          obtain ⟨⟨k1, k2⟩, k3⟩ := g4
          simp only [Option.any_some, Bool.or_eq_false_iff, decide_eq_false_iff_not, Nat.not_le] at hany
          have hih : i ∉ Ev.S.asg h := by simpa using hany.1
          refine PSw (ps_try_as (i := i) (c := .ref (M.cls C)) (Wout := Wx) (tb := fun W => fun D σ H => ∀ pn xe, Takes (X.tr pn xe) W → PassesOwn (model X.prog X.w) X.A X.env xe → WSx (X.tr pn xe) l D σ H)
            (ts := fun a cls d => fun D σ H => ∀ oe pn, Zc cls d oe → (∃ vs, oe.data = .fields vs) → WSx (X.suite a ((a, oe) :: pn)) (b₀ :: suite) D σ H) ok.stk ok.frm (by rw [ok.hN]; exact ok.nd) (by rw [ok.hN]; exact k1)
            (by show X.env.scope.names.lookup y = _; rw [ok.hs]; exact locB_loc k3) hnm ok.tk
            (fun W pn xe tk hpo => ⟨fun pins s σ H D I q => q pn xe tk hpo pins s I⟩) (fun a oe cls d pn hz hd => ⟨fun pins s σ H D I q => q oe pn hz hd pins s I⟩)) ?_
          intro pn xe tk hpo
          refine hb.all (ok_tr ok tk hpo) g2 sim ⟨fr.rep, fun x i h => noCur h⟩ (fun x i h => noCur h) ?_
          refine try_body ok (fun k hk => by simp [Ev.S.asg, hk]) hp (fun x S1 cls d v' n' s r σ' o hex hp' => ?_) (fun x cls d v' r σ' hex q => ?_)
          · refine ⟨true, by rw [r.1]; exact hex, fun _ a ha oe pn hz hd => ?_, fun z => Bool.noConfusion z⟩
            have hiσ : i < σ'.length := by
              rw [o.1, ← fr.rep.1]
              exact hany.2
            refine hh.all (ok_suite ok (x := x) (n := some i)) g3 s ⟨?_, fun x' j hj => ?_⟩ (fun x' j hj => ?_) (S := S1) (e := forget e (Ev.S.asg b ++ [i])) ?_
            · exact (fr.rep.mono n').forget ((o.mono fun k hk => by simp [hk]).trans ((off_set (i := i)).mono fun k hk => by simp at hk; simp [hk]))
            · cases hj
              exact ⟨a, oe, cls, d, List.mem_cons_self, List.getElem?_set_self hiσ, hz, hd, r⟩
            · cases hj
              exact hih
            · have hp' : PostS K M v Wx D (Ev.S.asg b ++ [i] ++ Ev.S.asg h) σ (match dS (suiteC c x (some i)) h (forget e (Ev.S.asg b ++ [i])) S1 with
                | .ok f S2 => .ok (f.drop (some i)) S2
                | _ => .no) := hp'
              cases hr : dS (suiteC c x (some i)) h (forget e (Ev.S.asg b ++ [i])) S1 with
              | no => rw [hr] at hp'; exact hp'.elim
              | err x S2 => rw [hr] at hp'; exact hp'.elim
              | ok f S2 =>
                rw [hr] at hp'
                intro v2 n2 s2
                have q := hp' v2 (n'.trans n2) s2
                have offA : ∀ {τ : St}, Off (Ev.S.asg h) (σ'.set i (some (.ref a))) τ → Off (Ev.S.asg b ++ [i] ++ Ev.S.asg h) σ (τ.set i none) := fun o2 =>
                  (o.mono fun k hk => by simp [hk]).trans (((off_set (i := i)).mono fun k hk => by simp at hk; simp [hk]).trans ((o2.mono fun k hk => by simp [hk]).trans ((off_set (i := i)).mono fun k hk => by simp at hk; simp [hk])))
                have fg : ∀ {e2 : En} {τ : St}, RepE K M v2 e2 τ → RepE K M v2 (forget e2 [i]) (τ.set i none) := fun r => r.forget off_set
                cases f with
                | nx e2 => exact fun τ r o2 => q _ (fg r) (offA o2)
                | rt w => exact q
                | bk e2 => exact fun τ r o2 => q _ (fg r) (offA o2)
                | ct e2 => exact fun τ r o2 => q _ (fg r) (offA o2)
          · exact ⟨false, by rw [r.1]; exact hex, fun z => Bool.noConfusion z, fun _ => q⟩
        · cases g4
      · cases hm
  · intro N sc l h
    simp only [mS] at h
    split at h
    · exact ⟨_, rfl⟩
    · cases h
mutual
theorem aS (K : PySem.W.Frag) (M : Names) : ∀ s : Ev.S, AS K M s
  | .nil => aS_nil
  | .seq a b => aS_seq (aS K M a) (aS K M b)
  | .set t x => aS_set (aX K M x) (fun elt tg it ifs _ => ⟨aI K M it, (aX K M elt).e, (aEs K M ifs).t⟩)
  | .setA o f x => aS_setA (aX K M o).e (aX K M x).e
  | .setI o i x => aS_setI (aX K M o).e (aX K M i).e (aX K M x).e
  | .aug i o x => aS_aug (aX K M x).e
  | .ex x => aS_ex (aX K M x).e
  | .ret x => aS_ret (aX K M x).e
  | .if_ q a b => aS_if (aX K M q).t (aS K M a) (aS K M b)
  | .for_ t it b => aS_for (aI K M it) (aS K M b)
  | .while_ q b => aS_while (aX K M q).t (aS K M b)
  | .raise C es => aS_raise (aEs K M es).s
  | .raiseN C es => .of (by
      intro X c N sc Wx ok st hm v S e σ D sim fr hc hp
      simp only [dS] at hp
      exact hp.elim) (fun N sc l h => by
      simp only [mS] at h
      split at h
      · exact ⟨_, rfl⟩
      · cases h)
  | .try_ b C n h => aS_try (aS K M b) (aS K M h)
  | .brk => .of (fun _ _ hm => absurd hm Bool.false_ne_true) (fun N sc l h => absurd h Bool.false_ne_true)
  | .cont => .of (fun _ _ hm => absurd hm Bool.false_ne_true) (fun N sc l h => absurd h Bool.false_ne_true)
end
end
end Ev
end

section
set_option linter.all false
set_option autoImplicit false
/-! EvS19: what a call leaves. -/
namespace Ev
open PySem L2
section
variable {K : PySem.W.Frag} {M : Names}
theorem old_some {v v' : Vw} {S S' T : Store} (n : Nx v v') (s : Sim K M v S) (s' : Sim K M v' S') (h : old S.length S' S = some T) : T.length = S.length ∧ Nx v (v'.cut v.n) ∧ Sim K M (v'.cut v.n) T ∧ v.n = S.length ∧ T = S'.take S.length := by
  unfold old at h
  split at h
  · rename_i hc
    cases h
    have hn : v.n = S.length := s.n
    have hcl : (S'.take v.n).all (Ob.cl v.n) = true := by
      rw [hn]
      rcases hc with hc | hc
      · rw [hc, ← hn]; exact s.cl
      · exact hc
    have sc := s'.cut n.le hcl
    refine ⟨?_, n.cut, by rw [hn] at sc ⊢; exact sc, hn, rfl⟩
    have := sc.n
    rw [hn] at this
    exact this.symm
  · cases h
theorem toD_lt : ∀ {l : List W} {ds : List D} (n : Nat), toD l = some ds → l.all (W.lt n) = true
  | [], _, _, _ => rfl
  | .d x :: l, _, n, h => by
    simp only [toD, Option.map_eq_some_iff] at h
    obtain ⟨ds, hd, rfl⟩ := h
    simp only [List.all_cons, Bool.and_eq_true]
    exact ⟨rfl, toD_lt n hd⟩
  | .r _ :: _, _, _, h => by simp [toD] at h
theorem gcW_post {v : Vw} {E : XK} {Q : VK} {S S' : Store} {w : W} (s : Sim K M v S) (h : PostQ K M v E Q (gcW S S' w)) : ∀ v', Nx v v' → Sim K M v' S' → ∀ y, RepW K M v' w y → Q y v'.H := by
  intro v' n s' y ry
  unfold gcW at h
  split at h
  · exact h v' n s' y ry
  · rename_i T hT
    obtain ⟨tl, nc, sc, hn, rfl⟩ := old_some n s s' hT
    split at h
    · rename_i x
      exact h _ nc sc y (Rep.cut n.le x y ry)
    · rename_i m
      split at h
      · rename_i hm
        exact h _ nc sc y (RepW.cut n.le (decide_eq_true (by rw [hn]; exact hm)) ry)
      · rename_i hm
        split at h
        · rename_i l hl
          split at h
          · rename_i ds hds
            obtain ⟨hmn, rfl⟩ := ry
            obtain ⟨xs, e1, r⟩ := s'.ob m _ hl
            have hnl : ¬ (v'.cut v.n).live (v'.ρ m) := fun ⟨k, hk, e⟩ => by
              have hk' : k < v.n := hk
              have := s'.inj k m (Nat.lt_of_lt_of_le hk' n.le) hmn e
              subst this
              rw [hn] at hk'
              exact hm hk'
            have e1' : (v'.cut v.n).H (v'.ρ m) = some (.lst xs) := e1
            have hv : v.H (v'.ρ m) = none := n.new m (by rw [hn]; exact Nat.not_lt.mp hm) hmn
            have sd := sc.del e1' hnl
            have nd := nc.del hv
            have nx := Nx.grown (v := (v'.cut v.n).del (v'.ρ m)) (a := v'.ρ m) (o := .lst xs) del_same
            have hH : (((v'.cut v.n).del (v'.ρ m)).ext (v'.ρ m) (.lst xs)).H = v'.H := (upd_self e1').symm
            have rr : RepWs K M (((v'.cut v.n).del (v'.ρ m)).ext (v'.ρ m) (.lst xs)) l xs := ((RepWs.cut n.le (toD_lt _ hds) r).del e1').mono nx
            have sg := sd.grown (u := .lst l) (o := .lst xs) del_same ⟨xs, upd_same, rr⟩
            rw [← hH]
            refine h _ (nd.trans nx) sg _ ⟨?_, ?_⟩
            · show S.length < v.n + 1
              rw [hn]; exact Nat.lt_succ_self _
            · show V.ref (v'.ρ m) = V.ref (if S.length = v.n then v'.ρ m else _)
              rw [if_pos hn.symm]
          · exact h v' n s' y ry
        · exact h v' n s' y ry
theorem gcX_post {v : Vw} {E : XK} {Q : VK} {S S' : Store} {x : Exn} (s : Sim K M v S) (h : PostQ K M v E Q (gcX S S' x)) : ∀ cls d v', Nx v v' → Sim K M v' S' → RepX K M v' x cls d → E cls d v'.H := by
  intro cls d v' n s' r
  unfold gcX at h
  split at h
  · exact h cls d v' n s' r
  · rename_i T hT
    obtain ⟨tl, nc, sc, hn, rfl⟩ := old_some n s s' hT
    split at h
    · rename_i hall
      refine h cls d (v'.cut v.n) nc sc ⟨r.1, ?_⟩
      rcases r.2 with r | ⟨dd, gs, e, hd, nl, hf⟩
      · exact .inl r
      · refine .inr ⟨dd, gs, e, hd, cut_live n.le nl, fun f u hu => ?_⟩
        obtain ⟨y, h1, h2⟩ := hf f u hu
        refine ⟨y, h1, RepW.cut n.le ?_ h2⟩
        rw [hn]
        have : (f, u) ∈ x.fs := by
          have key : ∀ l : List (String × W), l.lookup f = some u → (f, u) ∈ l := by
            intro l
            induction l with
            | nil => intro h; cases h
            | cons p l ih =>
              intro h
              obtain ⟨g, w⟩ := p
              by_cases hg : f = g
              · subst hg
                simp at h
                subst h
                simp
              · have hb : (f == g) = false := by simpa using hg
                simp only [List.lookup, hb] at h
                exact List.mem_cons_of_mem _ (ih h)
          exact key _ hu
        exact List.all_eq_true.mp hall _ this
    · exact h cls d v' n s' r
/-- a body's end -/
theorem fin_post {v : Vw} {E : XK} {Q : VK} {S : Store} {r : R Fl} {l : List Nat} {σ : St} (s : Sim K M v S) (h : PostQ K M v E Q (fin S r)) : PostS K M v (fun cls d _ H => E cls d H) { nx := fun _ H' => Q .non H', rt := Q } l σ r := by
  cases r with
  | no => exact h
  | err x S' => exact fun cls d v' n s' r σ' _ => gcX_post s h cls d v' n s' r
  | ok f S' =>
    intro v' n s'
    cases f with
    | nx e => exact fun σ' _ _ => gcW_post s (w := .d .non) h v' n s' .non (by simp [RepW, Rep])
    | rt w => exact gcW_post s h v' n s'
    | bk e => exact h.elim
    | ct e => exact h.elim

/-! ### making -/
theorem toDF_rep {v : Vw} : ∀ {fs : List (String × W)} {ds : List (String × D)} {gs : List (Str × V)}, toDF fs = some ds → RepWF K M v fs gs → RepF K M v ds gs
  | [], _, _, h, r => by
    cases h
    simp only [RepF]
    exact r
  | (f, .d x) :: fs, _, _, h, ⟨y, ys, e, r, q⟩ => by
    simp only [toDF, Option.map_eq_some_iff] at h
    obtain ⟨ds, hd, rfl⟩ := h
    simp only [RepF]
    exact ⟨y, ys, e, r, toDF_rep hd q⟩
  | (_, .r _) :: _, _, _, h, _ => by simp [toDF] at h
theorem mk_post {P : Prog} {call : String → String → List W → Store → R W} {C : String} {n : Nat} {ks : List String} {ws : List W} {S : Store} {v : Vw} {E : XK} {Q : VK} (s : Sim K M v S) (h : PostQ K M v E Q (mkOf P call C n ks ws S)) {x dx : Addr} (hx : v.H x = none) (hdx : v.H dx = none) (hne : dx ≠ x) :
    P.shapes.contains (C, n, ks) = true ∧ ws.length = n + ks.length ∧ ∃ v0, Nx v v0 ∧ v0.H = upd (upd v.H dx (.own x)) x (.ins (M.cls C) dx []) ∧ Sim K M v0 (S ++ [.ins C []]) ∧ RepW K M v0 (.r S.length) (.ref x) ∧
      PostQ K M v0 E (fun y H2 => y = .non ∧ Q (.ref x) H2) (call C "__init__" (.r S.length :: ws) (S ++ [.ins C []])) := by
  unfold mkOf at h
  split at h
  · rename_i hc
    simp only [Bool.and_eq_true, beq_iff_eq] at hc
    have n1 : Nx v (v.put dx (.own x)) := Nx.laid hdx
    have s1 : Sim K M (v.put dx (.own x)) S := s.laid hdx
    have hx1 : (v.put dx (.own x)).H x = none := by
      show upd v.H dx (.own x) x = none
      rw [upd_ne (Ne.symm hne)]; exact hx
    have n2 := Nx.grown (v := v.put dx (.own x)) (o := .ins (M.cls C) dx []) hx1
    have s2 : Sim K M ((v.put dx (.own x)).ext x (.ins (M.cls C) dx [])) (S ++ [.ins C []]) := s1.grown hx1 ⟨dx, [], upd_same, rfl⟩
    have hn : v.n = S.length := s.n
    have rx : RepW K M ((v.put dx (.own x)).ext x (.ins (M.cls C) dx [])) (.r S.length) (.ref x) := by
      refine ⟨?_, ?_⟩
      · show S.length < v.n + 1
        rw [hn]; exact Nat.lt_succ_self _
      · show V.ref x = V.ref (if S.length = v.n then x else _)
        rw [if_pos hn.symm]
    refine ⟨hc.1, hc.2, _, n1.trans n2, rfl, s2, rx, ?_⟩
    have n12 := n1.trans n2
    cases hr : call C "__init__" (.r S.length :: ws) (S ++ [.ins C []]) with
    | no => rw [hr] at h; exact h
    | err e S' => rw [hr] at h; exact fun cls d v' n' s' r => h cls d v' (n12.trans n') s' r
    | ok w S' =>
      rw [hr] at h
      intro v' n' s' y ry
      cases w with
      | r m => exact h.elim
      | d dd =>
        cases dd <;> first | (exact h.elim) | skip
        simp only [RepW, Rep] at ry
        subst ry
        refine ⟨rfl, ?_⟩
        have rx' := rx.mono n'
        simp only at h
        split at h
        · split at h
          · rename_i C' fs e1
            split at h
            · rename_i fs' T e2 e3
              split at h
              · rename_i hC
                subst hC
                obtain ⟨tl, nc, sc, hn', rfl⟩ := old_some (n12.trans n') s s' e3
                obtain ⟨dx', gs, e4, r4⟩ := s'.ob _ _ e1
                obtain ⟨hlt, hxe⟩ := rx'
                have hxe : x = v'.ρ S.length := V.ref.inj hxe
                refine h _ nc sc (.ref x) ?_
                simp only [RepW, Rep]
                refine ⟨x, dx', gs, rfl, by rw [hxe]; exact e4, fun ⟨k, hk, e⟩ => ?_, ?_⟩
                · have hk' : k < v.n := hk
                  have e : v'.ρ k = v'.ρ S.length := by rw [← hxe]; exact e
                  have := s'.inj k S.length (Nat.lt_of_lt_of_le hk' (n12.trans n').le) hlt e
                  subst this
                  rw [hn'] at hk'
                  exact Nat.lt_irrefl _ hk'
                · exact RepF.cut (n12.trans n').le fs' gs (toDF_rep e2 r4)
              · exact h.elim
            · exact h.elim
          · exact h.elim
        · exact h v' (n12.trans n') s' (.ref x) rx'
  · exact h.elim
end
end Ev
end

section
set_option linter.all false
set_option autoImplicit false
/-! EvS20: every def keeps its promise. -/
namespace Ev
open PySem L2
/-- a def of the text -/
structure FD where
  name : Str
  qual : Str
  params : Arguments
  body : List Stmt
  scope : Scope
  dV : Value
  kV : Value
  doc : Value
  pm : Value
  an : Option Addr
  cdv : Value
  ct : Value
  oc : Value
  od : Option Addr
  osl : Array (Option Value)
  N : List Str
  P : List Str
  Kn : List Str
def FD.fd (d : FD) : FuncData := PySem.W.fnOf d.name d.qual d.params d.body d.scope d.dV d.kV d.doc d.pm d.an d.cdv d.ct
structure FnAt (K : PySem.W.Frag) (a : Addr) (F : Fn) (d : FD) : Prop where
  lk : K.lookup a = some ⟨d.oc, d.od, .func d.fd, d.osl⟩
  code : PySem.W.codeIn K d.cdv d.qual = true
  sc : FnScope d.N (d.P ++ d.Kn) d.scope
  np : (d.P ++ d.Kn).length = F.ps
  nn : d.N.length = F.n
  body : mS d.N d.scope F.body d.body = true
  a1 : d.params.posonlyargs = []
  a2 : d.params.args.map (·.arg) = d.P
  a3 : d.params.vararg = none
  a4 : d.params.kwonlyargs.map (·.arg) = d.Kn
  a5 : d.params.kwarg = none
  a6 : d.dV = .none
/-- what the text must be for the evaluator to tell of it -/
structure ProgOk (P : Prog) (K : PySem.W.Frag) (M : Names) (mg : Str → Option Value) (prog : Program) (w : World) : Prop where
  fns : ∀ C f F, P.fns.lookup (C, f) = some F → ∃ d, FnAt K (M.fnA C f) F d ∧ (f ≠ "__init__" → d.Kn = [])
  defs : ∀ f F, P.fns.lookup ("", f) = some F → mg (sx f) = some (.ref (M.fnA "" f)) ∧ PySem.W.keepIn K (.ref (M.fnA "" f)) = true
  meths : ∀ C f F, P.fns.lookup (C, f) = some F → f ≠ "__init__" → C ≠ "" → Cls K (M.cls C) ∧ Meth K (M.cls C) (sx f) (M.fnA C f)
  blt : ∀ x ∈ bltNames, mg (sx x) = none
  glob : ∀ x d, P.globs.lookup x = some d → ∃ u y, mg (sx x) = some u ∧ RelV y u ∧ ∀ v, Rep K M v d y
  flds : ∀ C l f, P.flds.lookup C = some l → l.contains f = true → Cls K (M.cls C) ∧ NoAttr K (M.cls C) (sx f)
  exnF : ∀ C l f, P.exns.lookup C = some l → l.contains f = true → XfC K (M.cls C) ∧ PySem.W.findIn K (.ref (M.cls C)) (sx f) = some none
  exnG : ∀ C l, P.exns.lookup C = some l → mg (sx C) = some (.ref (M.cls C)) ∧ PySem.W.keepIn K (.ref (M.cls C)) = true
  sub : ∀ x C, (P.exns.lookup x).isSome = true → (P.exns.lookup C).isSome = true → PySem.W.exmOne K (.ref (M.cls x)) (.ref (M.cls C)) = some (x == C || P.subs.contains (x, C))
  mks : ∀ C n ks, P.shapes.contains (C, n, ks) = true → mg (sx C) = some (.ref (M.cls C)) ∧ Mk K (M.cls C) (M.fnA C "__init__") ∧ ∀ F d, P.fns.lookup (C, "__init__") = some F → FnAt K (M.fnA C "__init__") F d → d.P.length = n + 1 ∧ d.Kn = ks.map sx
  exnM : ∀ (X' : L2.Cx), X'.prog = prog → X'.w = w → X'.K = K → X'.mg = mg → X'.calm = true → Room 1 X'.A → ∀ (C : String) (ns : List String) (ws : List W) (S : Store) (v : Vw) (vs : List V) (us : List Value) (pins : List (Addr × Obj)) (σ : St) (s : Shared) (Q : XK), P.exns.lookup C = some ns → Sim K M v S → Inv X' pins σ v.H s → RepWs K M v ws vs → Vals vs us → ns.length = ws.length →
    (∀ cls d v', Nx v v' → Sim K M v' S → RepX K M v' ⟨C, ns.zip ws⟩ cls d → Q cls d v'.H) → wpAny (model X'.prog X'.w) X'.A (PySem.call (.ref (M.cls C)) us) (MkP X' pins σ Q) X'.xe s
  isx : ∀ x C b, P.isx x C = some b → L2.ExcC K (M.cls x) ∧ ((mg (sx C) = some (.ref (M.cls C)) ∧ PySem.W.kitOne K (.ref (M.cls x)) (.ref (M.cls C)) = some b) ∨ (C = "ValueError" ∧ mg (sx C) = none ∧ PySem.W.kitOne K (.ref (M.cls x)) (.type "ValueError") = some b))
  exnE : ∀ (X' : L2.Cx), X'.prog = prog → X'.w = w → X'.K = K → X'.mg = mg → X'.calm = true → Room 1 X'.A → ∀ (C : String) (ns : List String) (ws : List W) (S : Store) (v : Vw) (vs : List V) (us : List Value) (pins : List (Addr × Obj)) (σ : St) (s : Shared) (Q : VK), P.exns.lookup C = some ns → Sim K M v S → Inv X' pins σ v.H s → RepWs K M v ws vs → Vals vs us → ns.length = ws.length →
    (∀ a v', Nx v v' → Sim K M v' (S ++ [.exc C (ns.zip ws)]) → RepW K M v' (.r S.length) (.ref a) → Q (.ref a) v'.H) → wpAny (model X'.prog X'.w) X'.A (PySem.call (.ref (M.cls C)) us) (EP X' pins σ Q) X'.xe s
section
variable {P : Prog} {K : PySem.W.Frag} {M : Names} {mg : Str → Option Value} {base : Heap} {prog : Program} {w : World} {fuel : Nat}
/-- the promise -/
def spOf (P : Prog) (K : PySem.W.Frag) (M : Names) (fuel k : Nat) (C f : String) (F : Fn) : Sp := fun vs H Q E => ∃ (ws : List W) (S : Store) (v : Vw), v.H = H ∧ Sim K M v S ∧ RepWs K M v ws vs ∧ ws.length = F.ps ∧ PostQ K M v E Q (run P fuel k C f ws S)
theorem run_fn {k : Nat} {C f : String} {ws : List W} {S : Store} {v : Vw} {E : XK} {Q : VK} (h : PostQ K M v E Q (run P fuel k C f ws S)) : ∃ F, P.fns.lookup (C, f) = some F ∧ ws.length = F.ps := by
  cases k with
  | zero => exact h.elim
  | succ k =>
    simp only [run] at h
    split at h
    · exact h.elim
    · rename_i F hF
      split at h
      · rename_i hl
        exact ⟨F, hF, hl⟩
      · exact h.elim
theorem FnAt.bindP {a : Addr} {F : Fn} {d : FD} (h : FnAt K a F d) {s : Shared} {us zus : List Value} (hu : us.length = d.P.length) (hz : zus.length = d.Kn.length) : BindsTo s d.fd ⟨us, d.Kn.zip zus⟩ ((d.P ++ d.Kn).zip (us ++ zus)) := by
  have nd : (d.P ++ d.Kn).Nodup := by
    rw [← h.sc.pre]
    exact h.sc.nd.sublist (List.take_sublist _ _)
  refine .of_eq (bind_all d.fd d.P d.Kn us zus h.a1 h.a2 h.a3 h.a4 h.a5 ?_ hu hz nd)
  show seqItems? d.dV = _
  rw [h.a6]
  rfl
/-- a call, by values -/
theorem call_ok {X : L2.Cx} {Wx : WX} {k : Nat} {C f : String} {F : Fn} {d : FD} (hp : X.prog = prog) (hw : X.w = w) (hK : X.K = K) (hmg : X.mg = mg) (hb : X.base = base) (tk : Takes X Wx) (hr : Room (2 * k) X.A)
    (at_ : FnAt K (M.fnA C f) F d) (hF : FnOk prog w K mg base (L2.CX prog w) (2 * k) (M.fnA C f) d.fd (d.P ++ d.Kn) (spOf P K M fuel k C f F)) (hkn : d.Kn = [])
    {ws : List W} {S : Store} {v : Vw} {vs : List V} {us : List Value} {pins : List (Addr × Obj)} {σ : St} {s : Shared} {Q : VK} (sim : Sim K M v S) (I : Inv X pins σ v.H s) (r : RepWs K M v ws vs) (ru : Vals vs us) (hl : ws.length = F.ps)
    (h : PostQ K M v (fun cls d H => Wx cls d σ H) Q (run P fuel k C f ws S)) : wpAny (model X.prog X.w) X.A (PySem.call (.ref (M.fnA C f)) us) (EP X pins σ Q) X.xe s := by
  subst hp hw hK hmg hb
  have hu : us.length = (d.P ++ d.Kn).length := by rw [← ru.length, r.len, hl, at_.np]
  have hb : BindsTo s d.fd ⟨us, []⟩ ((d.P ++ d.Kn).zip us) := by
    have := at_.bindP (s := s) (us := us) (zus := []) (by rw [hu, hkn, List.append_nil]) (by rw [hkn]; rfl)
    rw [List.append_nil] at this
    rw [show (d.Kn.zip ([] : List Value)) = [] from by rw [hkn]; rfl] at this
    exact this
  refine wpAny_call (codeAny_mono (hF.run X.A X.stack s v.H ⟨us, []⟩ us vs Q (fun cls d H => Wx cls d σ H) hr I.env0 hb ru ⟨ws, S, v, rfl, sim, r, hl, h⟩) fun r s' hq => ?_)
  cases r with
  | error e => exact passAt tk σ pins v.H s e s' I hq
  | ok fl =>
    cases fl with
    | ret u => exact I.after hq
    | next => exact False.elim hq
    | brk => exact False.elim hq
    | cont => exact False.elim hq
/-- a making, by values -/
theorem make_ok {X : L2.Cx} {Wx : WX} {k : Nat} {C : String} {F : Fn} {d : FD} {ks : List String} (hp : X.prog = prog) (hw : X.w = w) (hK : X.K = K) (hmg : X.mg = mg) (hb : X.base = base) (tk : Takes X Wx) (hr : Room (2 * k + 1) X.A)
    (mk : Mk K (M.cls C) (M.fnA C "__init__")) (at_ : FnAt K (M.fnA C "__init__") F d) (hF : FnOk prog w K mg base (L2.CX prog w) (2 * k) (M.fnA C "__init__") d.fd (d.P ++ d.Kn) (spOf P K M fuel k C "__init__" F)) {n : Nat} (hPn : d.P.length = n + 1) (hkn : d.Kn = ks.map sx)
    {ws : List W} {S : Store} {v : Vw} {vs zs : List V} {us zus : List Value} {pins : List (Addr × Obj)} {σ : St} {s : Shared} {Q : VK} (sim : Sim K M v S) (I : Inv X pins σ v.H s) (r : RepWs K M v ws (vs ++ zs)) (ru : Vals vs us) (rz : Vals zs zus) (l1 : vs.length = n) (l2 : zs.length = ks.length) (hl : ws.length + 1 = F.ps)
    (h : PostQ K M v (fun cls d H => Wx cls d σ H) Q (mkOf P (run P fuel k) C n ks ws S)) : wpAny (model X.prog X.w) X.A (PySem.call (.ref (M.cls C)) us ((ks.map sx).zip zus)) (EP X pins σ Q) X.xe s := by
  subst hp hw hK hmg hb
  have f1 := I.hok.fresh (Nat.le_succ s.heap.objs.size)
  have f2 := I.hok.fresh (Nat.le_refl s.heap.objs.size)
  obtain ⟨hsh, hlen, v0, n0, hH, s0, rx, h0⟩ := mk_post sim h f1 f2 (Nat.ne_of_lt (Nat.lt_succ_self _))
  have I2 := Inv.made (C := M.cls C) I
  have r1 : Vals (V.ref (s.heap.objs.size + 1) :: (vs ++ zs)) (Value.ref (s.heap.objs.size + 1) :: (us ++ zus)) := .cons rfl (ru.append rz)
  have rw0 : RepWs X.K M v0 (.r S.length :: ws) (V.ref (s.heap.objs.size + 1) :: (vs ++ zs)) := ⟨_, _, rfl, rx, r.mono n0⟩
  have hus : us.length = n := by rw [← ru.length, l1]
  have hzs : zus.length = d.Kn.length := by rw [← rz.length, l2, hkn, List.length_map]
  have hb : ∀ s' : Shared, BindsTo s' d.fd ⟨Value.ref (s.heap.objs.size + 1) :: us, (ks.map sx).zip zus⟩ ((d.P ++ d.Kn).zip (Value.ref (s.heap.objs.size + 1) :: (us ++ zus))) := fun s' => by
    have := at_.bindP (s := s') (us := Value.ref (s.heap.objs.size + 1) :: us) (zus := zus) (by rw [List.length_cons, hus, hPn]) hzs
    rw [hkn] at this
    rw [hkn]
    exact this
  refine wpAny_call (make_map (f := M.fnA C "__init__") I.kIn mk.makes mk.init (beq_iff_eq.mp mk.fn) (codeAny_mono (hF.run _ X.stack _ _ ⟨Value.ref (s.heap.objs.size + 1) :: us, (ks.map sx).zip zus⟩ (Value.ref (s.heap.objs.size + 1) :: (us ++ zus)) _ _ (fun cls d H => Wx cls d σ H) (hr.make (M.cls C) us ((ks.map sx).zip zus))
    (I2.env0.make (M.cls C) us ((ks.map sx).zip zus)) (hb _) r1 ⟨_, _, v0, hH, s0, rw0, by rw [List.length_cons]; exact hl, h0⟩) fun r s' hq' => ?_))
  cases r with
  | error e => exact passAt tk σ pins _ _ e s' I2 hq'
  | ok fl =>
    cases fl with
    | ret u =>
      obtain ⟨v, H', I3, rv, ev, q3⟩ := I2.after hq'
      subst ev
      exact ⟨rv, ⟨V.ref (s.heap.objs.size + 1), H', I3, rfl, q3⟩⟩
    | next => exact False.elim hq'
    | brk => exact False.elim hq'
    | cont => exact False.elim hq'
/-- a def called with the exception at hand -/
theorem hot_ok (PF : ProgOk P K M mg prog w) {X : L2.Cx} (hp : X.prog = prog) (hw : X.w = w) (hK : X.K = K) (hmg : X.mg = mg) (hr : L2H.RoomH 1 X.A) {f : String} {x : Exn} {S : Store} {v : Vw} {a : Addr} {oe : Obj} {cls : Value} {d : Option Addr} {pins : List (Addr × Obj)} {σ : St} {s : Shared} {Q : VK}
    (hpn : (a, oe) ∈ X.pn) (hz : Zc cls d oe) (hf : ∃ vs, oe.data = .fields vs) (hx : RepX K M v x cls d) (sim : Sim K M v S) (I : Inv X pins σ v.H s) (h : PostQ K M v (fun _ _ _ => False) Q (runH P fuel f x S)) : wpAny (model X.prog X.w) X.A (PySem.call (.ref (M.fnA "" f)) [.ref a]) (EP X pins σ Q) X.xe s := by
  subst hp hw hK hmg
  unfold runH at h
  split at h
  · exact h.elim
  · rename_i F hF
    split at h
    · rename_i hc
      obtain ⟨h1, h2, h3⟩ := hc
      obtain ⟨fd, at_, hk⟩ := PF.fns "" f F hF
      have hkn := hk h2
      have hPl : fd.P.length = 1 := by
        have := at_.np
        rw [hkn, List.append_nil] at this
        rw [this, h1]
      have hb : BindsTo s fd.fd ⟨[.ref a], []⟩ (fd.P.zip [Value.ref a]) := by
        have := at_.bindP (s := s) (us := [.ref a]) (zus := []) (by rw [hPl]; rfl) (by rw [hkn]; rfl)
        rw [hkn, List.append_nil, List.append_nil] at this
        exact this
      have sc : FnScope fd.N fd.P fd.scope := by
        have := at_.sc
        rwa [hkn, List.append_nil] at this
      have P1 := I.pin (a, oe) (List.mem_append_left _ hpn)
      have hpin : L2H.PinOk X.stack v.H s (a, oe) := ⟨P1.1, P1.2.1, fun hm => (List.mem_cons.mp (I.stkSub a hm)).elim P1.2.2.1 P1.2.2.2.1, P1.2.2.2.2⟩
      have e0 := I.env0
      have KX := I.kIn
      have lim := I.nolimit
      have r : Vals [V.ref a] [Value.ref a] := .cons rfl .nil
      have hkind : ∀ y ∈ fd.P.zip [Value.ref a], fd.scope.names.lookup y.1 = some .local ∨ (fd.scope.names.lookup y.1 = some .cell ∧ ((cellsFrom (s.heap.objs.size + 1) fd.scope.names []).lookup y.1).isSome = true) := fun ⟨n, v⟩ hy => by
        rcases sc.par n (List.of_mem_zip hy).1 with q | q
        · exact .inl q
        · exact .inr ⟨q, PySem.W.cellsFrom_some _ _ _ (.inl q)⟩
      have main : codeAny (model X.prog X.w) X.A (.call (.ref (M.fnA "" f)) ⟨[.ref a], []⟩) (CR (L2.CX X.prog X.w) X.stack X.prog X.w v.H s Q (fun _ _ _ => False)) s := by
        refine PySem.codeAny_call_function hr.depth (KX _ _ at_.lk) rfl sc.co sc.gen rfl (PySem.W.codeRec_of KX at_.code) (hb _ _ _ _ ?_)
        refine PySem.wpAny_newFunctionEnv_cells sc.kind hkind fun env he s1 xx => ?_
        subst he
        refine ⟨lim.keeps xx.toInCall.keep, PySem.codeAny_func ?_⟩
        have I1 : Inv (L2H.cxH (L2.CX X.prog X.w) X.prog X.w X.K X.mg X.base fd.N fd.qual fd.scope (M.fnA "" f) fd.cdv X.A X.stack s v.H (fun _ _ _ => False) (a, oe)) [] (L2.start fd.N [.ref a]) v.H s1 := L2H.inv_startH sc hpin e0 (by rw [hPl]; rfl) r xx
        have ok : SOk X.K M (L2H.cxH (L2.CX X.prog X.w) X.prog X.w X.K X.mg X.base fd.N fd.qual fd.scope (M.fnA "" f) fd.cdv X.A X.stack s v.H (fun _ _ _ => False) (a, oe)) (P.cxH fuel x) fd.N fd.scope (fun _ _ _ _ => False) := {
          hK := rfl
          hN := rfl
          hs := rfl
          nd := sc.nd
          tk := fun u s' ⟨a, B, sI, pins, σ, H, cls, d, e, I, nb, up, sky, na, os, ag, w⟩ => w.elim
          room := by
            have := hr.un
            show (X.A.deeper _).units + 65 < cLine
            show X.A.units + 3 + 65 < cLine
            omega
          calm := fun h => Bool.noConfusion h
          blt := PF.blt
          glob := fun _ _ h => nomatch h
          fldI := fun _ _ h => Bool.noConfusion h
          fldX := fun _ _ h => Bool.noConfusion h
          cm := fun h => Bool.noConfusion h
          call := fun X' g Wx' _ C f ws S v vs us pins σ s Q _ _ _ _ h => h.elim
          callG := fun _ h => Bool.noConfusion h
          callM := fun _ _ h => Bool.noConfusion h
          make := fun X' g Wx' _ C n ks ws S v vs zs us zus pins σ s Q _ _ _ _ _ _ _ h => h.elim
          makeG := fun _ h => Bool.noConfusion h
          isx := PF.isx
          hot := fun X' g f x S v a oe cls d pins σ s Q _ _ _ _ _ _ h => h.elim
          hotG := fun f x S h => absurd rfl h
          hotE := fun f x S y T h => nomatch h
          mkx := fun h => Bool.noConfusion h
          mkxG := fun C ns h => nomatch h
          fn := fun _ => rfl
          kind := sc.kind
          hp := fun h => Bool.noConfusion h
          stk := rfl
          frm := rfl
          exnG := fun C ns h => nomatch h
          exnM := fun X' g hc C ns ws S v vs us pins σ s Q h => nomatch h
          sub := fun x C b h => nomatch h }
        have hNl : fd.N.length = F.n := at_.nn
        have hpre := congrArg List.length sc.pre
        rw [List.length_take, hPl] at hpre
        have hrep : RepE X.K M v (List.replicate F.n none) (L2.start fd.N [.ref a]) := by
          refine ⟨?_, fun i u hi => ?_⟩
          · simp only [L2.start, List.length_append, List.length_map, List.length_replicate, List.length_cons, List.length_nil, hNl]
            omega
          · rw [List.getElem?_replicate] at hi
            split at hi <;> cases hi
        have hfin : PostQ X.K M v (fun _ _ _ => False) Q (fin S (dS (P.cxH fuel x) F.body (List.replicate F.n none) S)) := by
          cases hq : fin S (dS (P.cxH fuel x) F.body (List.replicate F.n none) S) with
          | ok w T => rw [hq] at h; exact h
          | err y T => rw [hq] at h; exact h.elim
          | no => rw [hq] at h; exact h.elim
        have body := (aS X.K M F.body).all ok at_.body sim ⟨hrep, fun x' i hi => by
          cases hi
          exact ⟨a, oe, cls, d, List.mem_cons_self, rfl, hz, hf, hx⟩⟩ (fun x' i hi => by
          cases hi
          exact h3) (fin_post (l := Ev.S.asg F.body) (σ := L2.start fd.N [.ref a]) sim hfin)
        refine wpAny_mono (body [] s1 I1) (fun fl s' hs => ?_) fun e s' hs => hs
        have fin : ∀ {σ' : St} {H' : Hp} {v' : V} {u : Value}, Inv (L2H.cxH (L2.CX X.prog X.w) X.prog X.w X.K X.mg X.base fd.N fd.qual fd.scope (M.fnA "" f) fd.cdv X.A X.stack s v.H (fun _ _ _ => False) (a, oe)) [] σ' H' s' → RelV v' u → Q v' H' → CE X.stack X.prog X.w v.H s Q u s' :=
          fun {σ' H' v' u} J rv q => ⟨v', H', J.os, J.bare, J.base, J.hok, rv, q⟩
        cases fl with
        | ret u =>
          obtain ⟨v', σ', H', J, rv, q⟩ := hs
          exact fin J rv q
        | next =>
          obtain ⟨σ', H', J, q⟩ := hs
          exact fin (v' := V.non) (u := Value.none) J rfl q
        | brk =>
          obtain ⟨_, _, _, q⟩ := hs
          exact False.elim q
        | cont =>
          obtain ⟨_, _, _, q⟩ := hs
          exact False.elim q
      refine wpAny_call (codeAny_mono main fun r s' hq => ?_)
      cases r with
      | error e =>
        obtain ⟨_, _, _, _, _, _, _, _, _, _, _, _, z⟩ := hq
        exact z.elim
      | ok fl =>
        cases fl with
        | ret u => exact I.after hq
        | next => exact False.elim hq
        | brk => exact False.elim hq
        | cont => exact False.elim hq
    · exact h.elim
theorem fns_ok (PF : ProgOk P K M mg prog w) : ∀ (k : Nat) (C f : String) (F : Fn) (d : FD), P.fns.lookup (C, f) = some F → FnAt K (M.fnA C f) F d → FnOk prog w K mg base (L2.CX prog w) (2 * k) (M.fnA C f) d.fd (d.P ++ d.Kn) (spOf P K M fuel k C f F)
  | 0, C, f, F, d, hF, at_ => ⟨fun vs H Q E ⟨ws, S, v, _, _, r, hl, h⟩ => h.elim, fun A outer s H args us vs Q E hr he hb hv ⟨ws, S, v, _, _, r, hl, h⟩ => h.elim⟩
  | k + 1, C, f, F, d, hF, at_ => by
    have IH := fns_ok PF k
    have len : ∀ vs H Q E, spOf P K M fuel (k + 1) C f F vs H Q E → vs.length = (d.P ++ d.Kn).length := fun vs H Q E ⟨ws, S, v, _, _, r, hl, h⟩ => by rw [r.len, hl, at_.np]
    have main : FnOk prog w K mg base (L2.CX prog w) (2 * k + 1 + 1) (M.fnA C f) d.fd (d.P ++ d.Kn) (spOf P K M fuel (k + 1) C f F) := by
      refine fn_of (k := 2 * k + 1) at_.lk at_.code at_.sc len fun A outer s H vs Q E hr hsp => ?_
      obtain ⟨ws, S, v, rfl, sim, r, hl, h⟩ := hsp
      refine ⟨WSx (cxOf (L2.CX prog w) prog w K mg base d.N d.qual d.scope (M.fnA C f) d.cdv A outer s v.H E) d.body, pssW, ?_⟩
      have tk := takes_of (X := cxOf (L2.CX prog w) prog w K mg base d.N d.qual d.scope (M.fnA C f) d.cdv A outer s v.H E) (E := E) rfl rfl rfl rfl
      have hrH := (L2H.roomH_of hr).mono (show 1 ≤ 2 * k + 1 by omega)
      have ok : SOk K M (cxOf (L2.CX prog w) prog w K mg base d.N d.qual d.scope (M.fnA C f) d.cdv A outer s v.H E) (P.cx fuel (run P fuel k)) d.N d.scope (fun cls d _ H => E cls d H) := {
        hK := rfl
        hN := rfl
        hs := rfl
        nd := at_.sc.nd
        tk := tk
        room := by
          have := hr.un
          show (A.deeper (PyProof.Rows.envOfC d.qual d.scope s.heap.objs.size (M.fnA C f) d.cdv)).units + 65 < cLine
          omega
        calm := fun _ => rfl
        blt := PF.blt
        glob := PF.glob
        fldI := fun C f h => by
          simp only [Prog.cx] at h
          split at h
          · rename_i l hl
            exact PF.flds C l f hl h
          · cases h
        fldX := fun C f h => by
          simp only [Prog.cx] at h
          split at h
          · rename_i l hl
            exact PF.exnF C l f hl h
          · cases h
        cm := fun _ => rfl
        call := fun X' g Wx' tk' C' f' ws' S' v' vs' us' pins' σ' s' Q' sim' I' r' ru' h' => by
          simp only [Prog.cx] at h'
          split at h'
          · exact h'.elim
          · rename_i hne
            obtain ⟨F', hF', hl'⟩ := run_fn h'
            obtain ⟨d', at', hk'⟩ := PF.fns C' f' F' hF'
            exact call_ok (base := base) g.prog g.w g.K g.mg g.base tk' (by rw [g.A]; exact hr.mono (Nat.le_succ _)) at' (IH C' f' F' d' hF' at') (hk' hne) sim' I' r' ru' hl' h'
        callG := fun f' h' => by
          simp only [Prog.cx, Bool.and_eq_true] at h'
          obtain ⟨F', hF'⟩ := Option.isSome_iff_exists.mp h'.1
          exact PF.defs f' F' hF'
        callM := fun C' m h' hC => by
          simp only [Prog.cx, Bool.and_eq_true, bne_iff_ne] at h'
          obtain ⟨F', hF'⟩ := Option.isSome_iff_exists.mp h'.1
          exact PF.meths C' m F' hF' h'.2 hC
        make := fun X' g Wx' tk' C' n ks ws' S' v' vs' zs' us' zus' pins' σ' s' Q' sim' I' r' ru' rz' l1 l2 h' => by
          have h' : PostQ K M v' (fun cls d H => Wx' cls d σ' H) Q' (mkOf P (run P fuel k) C' n ks ws' S') := h'
          obtain ⟨hsh, hlen, v0, n0, hH, s0, rx, h0⟩ := mk_post sim' h' (I'.hok.fresh (Nat.le_succ _)) (I'.hok.fresh (Nat.le_refl _)) (Nat.ne_of_lt (Nat.lt_succ_self _))
          obtain ⟨F', hF', hl'⟩ := run_fn h0
          obtain ⟨d', at', _⟩ := PF.fns C' "__init__" F' hF'
          obtain ⟨_, mk, mf⟩ := PF.mks C' n ks hsh
          obtain ⟨e1, e2⟩ := mf F' d' hF' at'
          exact make_ok (base := base) g.prog g.w g.K g.mg g.base tk' (by rw [g.A]; exact hr) mk at' (IH C' "__init__" F' d' hF' at') e1 e2 sim' I' r' ru' rz' l1 l2 (by simpa using hl') h'
        makeG := fun C' h' => by
          simp only [Prog.cx, List.any_eq_true, beq_iff_eq] at h'
          obtain ⟨⟨C2, n, ks⟩, hm, rfl⟩ := h'
          obtain ⟨m1, mk, _⟩ := PF.mks C2 n ks (by simpa using hm)
          exact ⟨m1, mk.kp⟩
        isx := PF.isx
        hot := fun X' g f x S v a oe cls d pins σ s Q hpn hz hf hx sim I h => hot_ok (fuel := fuel) PF g.prog g.w g.K g.mg ⟨by rw [g.dp]; exact hrH.dp, by rw [g.un]; exact hrH.un⟩ hpn hz hf hx sim I h
        hotG := fun f x S h => by
          have h : runH P fuel f x S ≠ .no := h
          cases hF : P.fns.lookup ("", f) with
          | none =>
            unfold runH at h
            rw [hF] at h
            exact absurd rfl h
          | some F' => exact PF.defs f F' hF
        hotE := fun f x S y T h => by
          have h : runH P fuel f x S = .err y T := h
          unfold runH at h
          split at h
          · cases h
          · split at h
            · rename_i F' _ _
              cases hq : fin S (dS (P.cxH fuel x) F'.body (List.replicate F'.n none) S) with
              | ok w T => rw [hq] at h; cases h
              | err y T => rw [hq] at h; cases h
              | no => rw [hq] at h; cases h
            · cases h
        mkx := fun _ X' g hc C ns ws S v vs us pins σ s Q hns => PF.exnE X' g.prog g.w g.K g.mg hc (by
          rw [g.A]
          exact hr.mono (by omega)) C ns ws S v vs us pins σ s Q hns
        mkxG := PF.exnG
        fn := fun _ => rfl
        kind := at_.sc.kind
        hp := fun _ => passes_of rfl
        stk := rfl
        frm := rfl
        exnG := PF.exnG
        exnM := fun X' g hc C ns ws S v vs us pins σ s Q hns => PF.exnM X' g.prog g.w g.K g.mg hc (by
          rw [g.A]
          exact hr.mono (by omega)) C ns ws S v vs us pins σ s Q hns
        sub := fun x C b h => by
          simp only [Prog.cx] at h
          split at h
          · rename_i hx
            simp only [Bool.and_eq_true] at hx
            cases h
            exact PF.sub x C hx.1 hx.2
          · cases h }
      have hnl : vs.length = F.ps := by rw [r.len, hl]
      have hrep : RepE K M v (ws.map some ++ List.replicate (F.n - F.ps) none) (L2.start d.N vs) := by
        refine ⟨?_, fun i u hi => ?_⟩
        · simp only [L2.start, List.length_append, List.length_map, List.length_replicate, hl, hnl, at_.nn]
        · unfold L2.start
          by_cases hlt : i < ws.length
          · rw [List.getElem?_append_left (by simpa using hlt), List.getElem?_map] at hi
            cases e : ws[i]? with
            | none => rw [e] at hi; cases hi
            | some a =>
              rw [e] at hi
              cases hi
              obtain ⟨y, hy, ry⟩ := r.get e
              exact ⟨y, by rw [List.getElem?_append_left (by rw [List.length_map, r.len]; exact hlt), List.getElem?_map, hy]; rfl, ry⟩
          · rw [List.getElem?_append_right (by simpa using Nat.not_lt.mp hlt), List.getElem?_replicate] at hi
            split at hi <;> cases hi
      refine (aS K M F.body).all ok at_.body sim ⟨hrep, fun x i h => nomatch h⟩ (fun x i h => nomatch h) (S := S) (e := ws.map some ++ List.replicate (F.n - F.ps) none) ?_
      simp only [run, hF, if_pos hl] at h
      exact fin_post sim h
    exact main
end
end Ev
end

section
set_option linter.all false
set_option autoImplicit false
/-! EvF1: the facts of a program's text, by one Bool over a part of the heap. -/
namespace Ev
open PySem PySem.Spec PyProof.Rows L2
def isNonV : Value → Bool
  | .none => true
  | _ => false
theorem isNonV_ok {u : Value} (h : isNonV u = true) : u = .none := by
  cases u with
  | none => rfl
  | _ => cases h
def isE {α : Type} : List α → Bool
  | [] => true
  | _ => false
theorem isE_ok {α : Type} {l : List α} (h : isE l = true) : l = [] := by
  cases l with
  | nil => rfl
  | cons _ _ => cases h
def isNo {α : Type} : Option α → Bool
  | none => true
  | _ => false
theorem isNo_ok {α : Type} {l : Option α} (h : isNo l = true) : l = none := by
  cases l with
  | none => rfl
  | some _ => cases h
/-! ### a part of the heap without lists -/
def frN (g : Addr → Option Obj) (as : List Addr) : PySem.W.Frag := (He.frG g as).filter fun q => !decide (q.2.cls = .type "list")
theorem frN_mem {g : Addr → Option Obj} {as : List Addr} {a : Addr} {o : Obj} (h : (frN g as).lookup a = some o) : g a = some o ∧ o.cls ≠ .type "list" := by
  obtain ⟨h1, h2⟩ := List.mem_filter.mp (He.lookup_mem h)
  exact ⟨He.frG_mem h1, by simpa using h2⟩
theorem frN_in {as : List Addr} {h : Heap} : (frN h.get? as).In h := fun _ _ e => (frN_mem e).1
def nmM (K : PySem.W.Frag) : Names := ⟨fun C => He.ga K (sx C), fun C f => if C = "" then He.ga K (sx f) else He.ma K (He.ga K (sx C)) (sx f)⟩
/-! ### functions -/
def scB (N P : List Str) (sc : Scope) : Bool :=
  decide (sc.kind = .function) && (!sc.isCoroutine && (!sc.isGenerator && (decide N.Nodup && (decide (N.take P.length = P) && (P.all (fun x => decide (sc.names.lookup x = some .local) || decide (sc.names.lookup x = some .cell)) && sc.names.all fun y => !decide (y.2 = .free))))))
theorem scB_ok {N P : List Str} {sc : Scope} (h : scB N P sc = true) : FnScope N P sc := by
  simp only [scB, Bool.and_eq_true, decide_eq_true_eq, Bool.not_eq_true', List.all_eq_true, Bool.or_eq_true, decide_eq_false_iff_not] at h
  obtain ⟨h1, h2, h3, h4, h5, h6, h7⟩ := h
  exact ⟨h1, h2, h3, h4, h5, h6, h7⟩
def fnB (K : PySem.W.Frag) (a : Addr) (F : Fn) (N : List Str) : Bool := match K.lookup a with
  | some ⟨_, _, .func fd, _⟩ => (match fd.body with
    | .stmts body => PySem.W.codeIn K fd.code fd.qualname && (scB N (fd.params.args.map (·.arg) ++ fd.params.kwonlyargs.map (·.arg)) fd.scope && (decide ((fd.params.args.map (·.arg) ++ fd.params.kwonlyargs.map (·.arg)).length = F.ps) && (decide (N.length = F.n) && (mS N fd.scope F.body body && (isE fd.params.posonlyargs && (isNo fd.params.vararg && (isNo fd.params.kwarg && (isNonV fd.defaults && (decide (fd.globals = mainGlobals) && (isE fd.closure && decide (fd.builtins = builtinsNs)))))))))))
    | _ => false)
  | _ => false
theorem fnB_ok {K : PySem.W.Frag} {a : Addr} {F : Fn} {N : List Str} (h : fnB K a F N = true) : ∃ d, FnAt K a F d ∧ d.N = N := by
  unfold fnB at h
  split at h
  · rename_i oc od fd sl hk
    split at h
    · rename_i body hb
      simp only [Bool.and_eq_true, decide_eq_true_eq] at h
      obtain ⟨h1, h2, h3, h4, h5, h6, h7, h8, h9, h10, h11, h12⟩ := h
      obtain ⟨n1, n2, n3, n4, n5, n6, n7, n8, n9, n10, n11, n12, n13, n14, n15⟩ := fd
      dsimp only at h1 h2 h3 h4 h5 h6 h7 h8 h9 h10 h11 h12 hb
      subst hb h10 h12
      have h11 := isE_ok h11
      subst h11
      exact ⟨⟨n1, n2, n3, body, n5, n8, n9, n10, n11, n12, n13, n14, oc, od, sl, N, n3.args.map (·.arg), n3.kwonlyargs.map (·.arg)⟩, ⟨hk, h1, scB_ok h2, h3, h4, h5, isE_ok h6, rfl, isNo_ok h7, rfl, isNo_ok h8, isNonV_ok h9⟩, rfl⟩
    · cases h
  · cases h
/-- its parameters: how many, which by keyword -/
def psB (K : PySem.W.Frag) (a : Addr) (n : Option Nat) (ks : List Str) : Bool := match K.lookup a with
  | some ⟨_, _, .func fd, _⟩ => (match n with
    | some n => decide (fd.params.args.length = n)
    | none => true) && decide (fd.params.kwonlyargs.map (·.arg) = ks)
  | _ => false
theorem psB_ok {K : PySem.W.Frag} {a : Addr} {n : Option Nat} {ks : List Str} {F : Fn} {d : FD} (h : psB K a n ks = true) (at_ : FnAt K a F d) : d.Kn = ks ∧ ∀ m, n = some m → d.P.length = m := by
  unfold psB at h
  rw [at_.lk] at h
  simp only [Bool.and_eq_true, decide_eq_true_eq] at h
  refine ⟨?_, fun m e => ?_⟩
  · rw [← at_.a4]
    exact h.2
  · subst e
    have := h.1
    simp only [decide_eq_true_eq] at this
    rw [← at_.a2, List.length_map]
    exact this
/-! ### constants -/
mutual
def dB (K : PySem.W.Frag) : D → Value → Bool
  | .non, u => isNonV u
  | .bl b, u => (match u with
    | .bool c => b == c
    | _ => false)
  | .int i, u => (match u with
    | .int j _ => decide (i = j)
    | _ => false)
  | .str s, u => (match u with
    | .str y _ => decide (tx s = y)
    | _ => false)
  | .tup l, u => (match u with
    | .ref a => (match K.lookup a with
      | some ⟨.type c, _, .seq its _, _⟩ => decide (c = "tuple") && (decide (its.size ≤ sizeLine) && dBL K l its.toList)
      | _ => false)
    | _ => false)
  | .obj _ _, _ => false
  | .fn f, u => (match u with
    | .ref a => decide (a = (nmM K).fnA "" f)
    | _ => false)
def dBL (K : PySem.W.Frag) : List D → List Value → Bool
  | [], us => isE us
  | d :: ds, us => (match us with
    | u :: us => dB K d u && dBL K ds us
    | [] => false)
end
mutual
theorem dB_ok {K : PySem.W.Frag} : ∀ (d : D) (u : Value), dB K d u = true → ∃ y, RelV y u ∧ ∀ v, Rep K (nmM K) v d y
  | .non, u, h => by
    simp only [dB] at h
    exact ⟨.non, isNonV_ok h, fun v => by simp [Rep]⟩
  | .bl b, u, h => by
    simp only [dB] at h
    split at h
    · simp only [beq_iff_eq] at h
      subst h
      exact ⟨.bl b, rfl, fun v => by simp [Rep]⟩
    · cases h
  | .int i, u, h => by
    simp only [dB] at h
    split at h
    · simp only [decide_eq_true_eq] at h
      subst h
      exact ⟨.int i, ⟨_, rfl⟩, fun v => by simp [Rep]⟩
    · cases h
  | .str s, u, h => by
    simp only [dB] at h
    split at h
    · simp only [decide_eq_true_eq] at h
      subst h
      exact ⟨.str (tx s), ⟨_, rfl⟩, fun v => by simp [Rep]⟩
    · cases h
  | .tup l, u, h => by
    simp only [dB] at h
    split at h
    · rename_i a
      split at h
      · rename_i c od its n sl hk
        simp only [Bool.and_eq_true, decide_eq_true_eq] at h
        obtain ⟨rfl, h2, h3⟩ := h
        obtain ⟨ys, hv, hr⟩ := dBL_ok l its.toList h3
        exact ⟨.ref a, rfl, fun v => by
          simp only [Rep]
          exact ⟨a, ys, rfl, .inr ⟨_, its, n, hk, rfl, rfl, h2, hv⟩, hr v⟩⟩
      · cases h
    · cases h
  | .obj _ _, u, h => by
    simp only [dB] at h
    cases h
  | .fn f, u, h => by
    simp only [dB] at h
    split at h
    · simp only [decide_eq_true_eq] at h
      subst h
      exact ⟨.ref ((nmM K).fnA "" f), rfl, fun v => by simp [Rep]⟩
    · cases h
theorem dBL_ok {K : PySem.W.Frag} : ∀ (l : List D) (us : List Value), dBL K l us = true → ∃ ys, Vals ys us ∧ ∀ v, RepL K (nmM K) v l ys
  | [], us, h => by
    simp only [dBL] at h
    rw [isE_ok h]
    exact ⟨[], .nil, fun v => by simp [RepL]⟩
  | d :: ds, us, h => by
    simp only [dBL] at h
    split at h
    · rename_i u us
      simp only [Bool.and_eq_true] at h
      obtain ⟨y, r, q⟩ := dB_ok d u h.1
      obtain ⟨ys, rs, qs⟩ := dBL_ok ds us h.2
      exact ⟨y :: ys, .cons r rs, fun v => by
        simp only [RepL]
        exact ⟨y, ys, rfl, q v, qs v⟩⟩
    · cases h
end
def globB (K : PySem.W.Frag) (x : Str) (d : D) : Bool := match PySem.W.nsIn K mainGlobals x with
  | some (some u) => dB K d u
  | _ => false
theorem globB_ok {K : PySem.W.Frag} {h : Heap} {mg : Str → Option Value} (X : K.In h) (G : h.Ns mainGlobals mg) {x : Str} {d : D} (c : globB K x d = true) : ∃ u y, mg x = some u ∧ RelV y u ∧ ∀ v, Rep K (nmM K) v d y := by
  unfold globB at c
  split at c
  · rename_i u e
    obtain ⟨y, r, q⟩ := dB_ok d u c
    exact ⟨u, y, PySem.W.mg_of X G e, r, q⟩
  · cases c
/-! ### exceptions -/
def oexB (K : PySem.W.Frag) (C : Addr) : Bool := (match K.lookup C with
  | some ⟨.type t, _, .cls cd, sl⟩ => decide (t = "type") && (match cd.mro, sl.toList with
    | .ref C' :: bm, [_, _, _, _, some (.builtin n), _] => decide (C' = C) && (decide (n = "ValueError.__new__") && (!cd.hasDel && (cd.hasDict && PySem.HandSPX.refsVE bm)))
    | _, _ => false)
  | _ => false) && (He.eqO (PySem.W.findIn K (.ref C) "__setattr__") (some (some (.builtin "object.__setattr__"))) && (decide (PySem.W.subIn K (.ref C) (.type "BaseException") = some true) && (decide (PySem.W.typeIn K (.ref C) = some (.type "type")) && PySem.W.keepIn K (.ref C))))
theorem oexB_ok {K : PySem.W.Frag} {C : Addr} (h : oexB K C = true) : OexC K C := by
  unfold oexB at h
  simp only [Bool.and_eq_true, decide_eq_true_eq] at h
  obtain ⟨h, h2, h3, h4, h5⟩ := h
  refine ⟨?_, He.eqO_ok h2, h3, h4, h5⟩
  split at h
  · rename_i t dd cd sl ho
    simp only [Bool.and_eq_true, decide_eq_true_eq] at h
    obtain ⟨rfl, h⟩ := h
    split at h
    · rename_i C' bm k0 k1 k2 k3 n k5 hm hs
      simp only [Bool.and_eq_true, decide_eq_true_eq, Bool.not_eq_true'] at h
      obtain ⟨rfl, rfl, hdel, hd, ht⟩ := h
      obtain ⟨nm, bs, mro, ns, qn, hdct, sn, sub, ab, col, del⟩ := cd
      dsimp only at hm hdel hd
      subst hm hdel hd
      have hsl : sl = #[k0, k1, k2, k3, some (.builtin "ValueError.__new__"), k5] := by
        obtain ⟨l⟩ := sl
        simp only at hs
        rw [hs]
      subst hsl
      exact ⟨nm, qn, ns, bs, bm, sn, sub, ab, col, dd, k0, k1, k2, k3, k5, ho, ht⟩
    · cases h
  · cases h
theorem lookup_memG {α β : Type} [BEq α] [LawfulBEq α] {a : α} {o : β} : ∀ {l : List (α × β)}, l.lookup a = some o → (a, o) ∈ l
  | [], h => by simp at h
  | (b, u) :: r, h => by
    rw [List.lookup_cons] at h
    split at h
    · rename_i q
      cases h
      rw [eq_of_beq q]
      exact List.mem_cons_self
    · exact List.mem_cons_of_mem _ (lookup_memG h)
def exScB (P : List Str) (sc : Scope) : Bool :=
  decide (sc.kind = .function) && (!sc.isCoroutine && (!sc.isGenerator && (decide P.Nodup && (P.all (fun x => decide (sc.names.lookup x = some .local)) && (sc.names.all (fun y => !decide (y.2 = .cell)) && sc.names.all fun y => !decide (y.2 = .free) || decide (y.1 = ("__class__" : Str)))))))
theorem exScB_ok {P : List Str} {sc : Scope} (h : exScB P sc = true) : ExScope P P sc := by
  simp only [exScB, Bool.and_eq_true, decide_eq_true_eq, Bool.not_eq_true', List.all_eq_true, Bool.or_eq_true, decide_eq_false_iff_not] at h
  obtain ⟨h1, h2, h3, h4, h5, h6, h7⟩ := h
  refine ⟨h1, h2, h3, h4, List.take_length, h5, h6, fun y hy => ?_⟩
  have := lookup_memG hy
  rcases h7 _ this with e | e
  · exact absurd rfl e
  · exact e
end Ev
end

section
set_option linter.all false
set_option autoImplicit false
/-! EvF2: .. the exceptions' makings, the whole. -/
namespace Ev
open PySem PySem.Spec PyProof.Rows L2
def cdB (K : PySem.W.Frag) (prog : Program) (cda : Addr) : Bool := match K.lookup cda with
  | some ⟨_, _, .fields fvs, _⟩ => (match (fvs[2]? : Option Value) with
    | some (.str file _) => ((prog.main.file : Str) == file)
    | _ => false)
  | _ => false
theorem cdB_ok {K : PySem.W.Frag} {prog : Program} {cda : Addr} (h : cdB K prog cda = true) : ∃ oc od fvs sl file tf, K.lookup cda = some ⟨oc, od, .fields fvs, sl⟩ ∧ fvs[2]? = some (.str file tf) ∧ ((prog.main.file : Str) == file) = true := by
  unfold cdB at h
  split at h
  · rename_i oc od fvs sl hk
    split at h
    · rename_i file tf h2
      exact ⟨oc, od, fvs, sl, file, tf, hk, h2, h⟩
    · cases h
  · cases h
def ccB (K : PySem.W.Frag) (C cc : Addr) : Bool := match K.lookup cc with
  | some ⟨_, _, .cell (some (.ref C')), _⟩ => decide (C' = C)
  | _ => false
theorem ccB_ok {K : PySem.W.Frag} {C cc : Addr} (h : ccB K C cc = true) : ∃ oc od sl, K.lookup cc = some ⟨oc, od, .cell (some (.ref C)), sl⟩ := by
  unfold ccB at h
  split at h
  · rename_i oc od C' sl hk
    simp only [decide_eq_true_eq] at h
    subst h
    exact ⟨oc, od, sl, hk⟩
  · cases h
/-- the def itself -/
def xfnB (K : PySem.W.Frag) (prog : Program) (C : Addr) (fs : List String) (fd : FuncData) : Bool := match fd.body, fd.closure, fd.code, fd.params.args with
  | .stmts body, [(cn, cc)], .ref cda, ar :: ars =>
    decide (cn = ("__class__" : Str)) && (PySem.W.codeIn K (.ref cda) fd.qualname && (exScB ((ar :: ars).map (·.arg)) fd.scope && (decide (((ar :: ars).map (·.arg)).length = fs.length + 1) && (decide (fd.scope.names.lookup ar.arg = some .local) && (!(ar.arg == ("__debug__" : Str)) && (!(ar.arg == ("__classdict__" : Str)) &&
      (decide (fd.scope.names.lookup ("super" : Str) = some .globalImplicit) && (decide (fd.scope.names.lookup ("__class__" : Str) = some .free) && (cdB K prog cda && (ccB K C cc && (xBody ((ar :: ars).map (·.arg)) fd.scope ar.arg fs body && (isE fd.params.posonlyargs && (isNo fd.params.vararg && (isE fd.params.kwonlyargs && (isNo fd.params.kwarg && (isNonV fd.defaults && (decide (fd.globals = mainGlobals) && decide (fd.builtins = builtinsNs))))))))))))))))))
  | _, _, _, _ => false
def xB (K : PySem.W.Frag) (prog : Program) (C f : Addr) (fs : List String) : Bool := (match K.lookup f with
  | some ⟨_, _, .func fd, _⟩ => xfnB K prog C fs fd
  | _ => false) && (oexB K C && (!isE fs && (decide (fs.length ≤ 800) && (isNo (prog.main.scope.names.lookup ("super" : Str)) && (He.eqO (PySem.W.nsIn K mainGlobals ("super" : Str)) (some none) && (decide (PySem.W.mroIn K C (.ref C) = some true) && (He.eqO (PySem.W.nsIn K cStatics "thirdparty.any") (some none) &&
    (He.eqO (PySem.W.ks_superIn K C C "__init__") (some (some (.builtin "ValueError.__init__"))) && (decide (PySem.W.subIn K (.ref C) (.type "ValueError") = some true) && (fs.all (fun g => He.eqO (PySem.W.findIn K (.ref C) (sx g)) (some none)) && (decide fs.Nodup && (He.eqO (PySem.W.findIn K (.ref C) "__init__") (some (some (.ref f))) && decide (PySem.W.typeIn K (.ref f) = some (.type "function"))))))))))))))
theorem xB_ok {K : PySem.W.Frag} {prog : Program} {C f : Addr} {fs : List String} {h : Heap} {mg : Str → Option Value} (X : K.In h) (G : h.Ns mainGlobals mg) (c : xB K prog C f fs = true) : ∃ d, XAt2 K mg prog C f fs d := by
  unfold xB at c
  simp only [Bool.and_eq_true, decide_eq_true_eq, Bool.not_eq_true', List.all_eq_true] at c
  obtain ⟨c, c1, c2, c3, c4, c5, c6, c7, c8, c9, c10, c11, c12, c13⟩ := c
  split at c
  · rename_i oc od fd sl hk
    unfold xfnB at c
    split at c
    · rename_i body cn cc cda ar ars e1 e2 e3 e4
      simp only [Bool.and_eq_true, decide_eq_true_eq, Bool.not_eq_true'] at c
      obtain ⟨rfl, k2, k3, k4, k5, k6, k7, k8, k9, k10, k11, k12, k13, k14, k15, k16, k17, k18, k19⟩ := c
      obtain ⟨oc2, od2, fvs, sl2, file, tf, q1, q2, q3⟩ := cdB_ok k10
      obtain ⟨oc3, od3, sl3, q4⟩ := ccB_ok k11
      obtain ⟨n1, n2, n3, n4, n5, n6, n7, n8, n9, n10, n11, n12, n13, n14, n15⟩ := fd
      dsimp only at k2 k3 k4 k5 k6 k7 k8 k9 k12 k13 k14 k15 k16 k17 k18 k19 e1 e2 e3 e4
      subst e1 e2 e3 k18 k19
      have hne : fs ≠ [] := fun e => by
        subst e
        cases c2
      exact ⟨⟨n1, n2, n3, body, n5, n8, n9, n10, n11, n12, cda, n14, cc, ar, oc, od, sl, oc2, od2, sl2, fvs, file, tf, oc3, od3, sl3, (ar :: ars).map (·.arg), (ar :: ars).map (·.arg)⟩,
        { T := oexB_ok c1
          lk := hk
          code := k2
          sc := exScB_ok k3
          lP := k4
          ne := hne
          few := c3
          N0 := rfl
          loc := k5
          d1 := k6
          d2 := k7
          sup := k8
          cls := k9
          hd := by
            show (n3.posonlyargs ++ n3.args).head? = some ar
            rw [isE_ok k13, e4]
            rfl
          cd := q1
          f2 := q2
          fl := q3
          top := by rw [isNo_ok c4]; rfl
          cell := q4
          mgs := PySem.W.mg_none_of X G (He.eqO_ok c5)
          mro := c6
          op := He.eqO_ok c7
          ini := He.eqO_ok c8
          sub := c9
          flds := fun g hg => He.eqO_ok (c10 g hg)
          body := k12
          a1 := isE_ok k13
          a2 := by
            show n3.args.map (·.arg) = _
            rw [e4]
          a3 := isNo_ok k14
          a4 := isE_ok k15
          a5 := isNo_ok k16
          a6 := isNonV_ok k17
          nd := c11
          iC := He.eqO_ok c12
          tI := c13 }⟩
    · cases c
  · cases c
/-! ### the whole -/
def gloB (K : PySem.W.Frag) (x : Str) : Bool := (He.Fa.glo x).ok K
def okFns (P : Prog) (PN : List ((String × String) × List String)) (K : PySem.W.Frag) : Bool :=
  P.fns.all fun x => fnB K ((nmM K).fnA x.1.1 x.1.2) x.2 (((PN.lookup x.1).getD []).map sx) && (x.1.2 == "__init__" || psB K ((nmM K).fnA x.1.1 x.1.2) none [])
def okDefs (P : Prog) (K : PySem.W.Frag) : Bool :=
  P.fns.all fun x => if x.1.1 = "" then gloB K (sx x.1.2) && PySem.W.keepIn K (.ref (He.ga K (sx x.1.2))) else (x.1.2 == "__init__" || ((He.Fa.cls (sx x.1.1)).ok K && (He.Fa.meth (sx x.1.1) (sx x.1.2)).ok K))
def okGlobs (P : Prog) (K : PySem.W.Frag) : Bool := bltNames.all (fun x => (He.Fa.free (sx x)).ok K) && P.globs.all fun x => globB K (sx x.1) x.2
def okFlds (P : Prog) (K : PySem.W.Frag) : Bool := P.flds.all fun x => x.2.all fun f => (He.Fa.cls (sx x.1)).ok K && (He.Fa.noat (sx x.1) (sx f)).ok K
/-- instances of the class may be asked by isinstance -/
def xcB (K : PySem.W.Frag) (D : Addr) : Bool := xfB K D && (He.eqO (PySem.W.findIn K (.ref D) "__class__") (some (some (.builtin "object.__class__"))) && (He.eqO (PySem.W.specialIn K (.builtin "object.__class__") "__get__") (some (some (.builtin "getset_descriptor.__get__"))) && (decide (PySem.W.takesIn K (.builtin "object.__class__") = some true) && decide (PySem.W.mroIn K D (.type "object") = some true))))
theorem xcB_ok {K : PySem.W.Frag} {D : Addr} (h : xcB K D = true) : L2.ExcC K D := by
  unfold xcB at h
  simp only [Bool.and_eq_true, decide_eq_true_eq] at h
  obtain ⟨h1, h2, h3, h4, h5⟩ := h
  have x := xfB_ok h1
  exact ⟨x.ga, x.gg, x.exC, x.hdC, He.eqO_ok h2, He.eqO_ok h3, h4, h5⟩
def isxB (P : Prog) (K : PySem.W.Frag) (x : String) : Bool := xcB K (He.ga K (sx x)) && ((P.exns.all fun y => decide (PySem.W.kitOne K (.ref (He.ga K (sx x))) (.ref (He.ga K (sx y.1))) = P.isx x y.1)) && decide (PySem.W.kitOne K (.ref (He.ga K (sx x))) (.type "ValueError") = some true))
def x0B (K : PySem.W.Frag) (C : Addr) : Bool := PySem.W.excIn K C He.veBase "ValueError.__new__" && (decide (PySem.W.subIn K (.ref C) (.type "BaseException") = some true) && decide (PySem.W.typeIn K (.ref C) = some (.type "type")))
theorem x0B_ok {K : PySem.W.Frag} {C : Addr} (h : x0B K C = true) : X0At K C := by
  unfold x0B at h
  simp only [Bool.and_eq_true, decide_eq_true_eq] at h
  exact ⟨h.1, h.2.1, h.2.2⟩
def okExn (P : Prog) (prog : Program) (K : PySem.W.Frag) (x : String × List String) : Bool := (x.2.all fun f => xfB K (He.ga K (sx x.1)) && He.eqO (PySem.W.findIn K (.ref (He.ga K (sx x.1))) (sx f)) (some none)) && (gloB K (sx x.1) && (PySem.W.keepIn K (.ref (He.ga K (sx x.1))) &&
  ((P.exns.all fun y => decide (PySem.W.exmOne K (.ref (He.ga K (sx x.1))) (.ref (He.ga K (sx y.1))) = some (x.1 == y.1 || P.subs.contains (x.1, y.1)))) && (isxB P K x.1 && if x.2.isEmpty then x0B K (He.ga K (sx x.1)) else xB K prog (He.ga K (sx x.1)) (He.ma K (He.ga K (sx x.1)) (sx "__init__")) x.2))))
def okExns (P : Prog) (prog : Program) (K : PySem.W.Frag) : Bool := P.exns.all fun x => okExn P prog K x
def okMks (P : Prog) (K : PySem.W.Frag) : Bool := P.shapes.all fun x => !(x.1 == "") && (gloB K (sx x.1) && ((He.Fa.mkr (sx x.1)).ok K && psB K (He.ma K (He.ga K (sx x.1)) "__init__") (some (x.2.1 + 1)) (x.2.2.map sx)))
def okB (P : Prog) (PN : List ((String × String) × List String)) (prog : Program) (K : PySem.W.Frag) : Bool := okFns P PN K && (okDefs P K && (okGlobs P K && (okFlds P K && (okExns P prog K && okMks P K))))
theorem sx_init : sx "__init__" = ("__init__" : Str) := rfl
theorem okB_ok {P : Prog} {PN : List ((String × String) × List String)} {prog : Program} {w : World} {K : PySem.W.Frag} {h : Heap} {mg : Str → Option Value} (X : K.In h) (G : h.Ns mainGlobals mg) (c : okB P PN prog K = true) : ProgOk P K (nmM K) mg prog w := by
  simp only [okB, Bool.and_eq_true] at c
  obtain ⟨c1, c2, c3, c4, c5, c6⟩ := c
  have fnM : ∀ C f, C ≠ "" → (nmM K).fnA C f = He.ma K (He.ga K (sx C)) (sx f) := fun C f hC => if_neg hC
  have fn0 : ∀ f, (nmM K).fnA "" f = He.ga K (sx f) := fun f => by
    simp only [nmM, if_true]
  have exn : ∀ {C l}, P.exns.lookup C = some l → okExn P prog K (C, l) = true := fun {C l} hl => List.all_eq_true.mp c5 (C, l) (lookup_memG hl)
  refine ⟨fun C f F hF => ?_, fun f F hF => ?_, fun C f F hF hi hC => ?_, fun x hx => ?_, fun x d hd => ?_, fun C l f hl hf => ?_, fun C l f hl hf => ?_, fun C l hl => ?_, fun x C hx hC => ?_, fun C n ks hs => ?_, ?_, fun x C b hb => ?_, ?_⟩
  · have := List.all_eq_true.mp c1 _ (lookup_memG hF)
    simp only [Bool.and_eq_true, Bool.or_eq_true, beq_iff_eq] at this
    obtain ⟨d, hd, _⟩ := fnB_ok this.1
    exact ⟨d, hd, fun ne => (psB_ok (this.2.resolve_left ne) hd).1⟩
  · have := List.all_eq_true.mp c2 _ (lookup_memG hF)
    simp only [if_true, Bool.and_eq_true] at this
    rw [fn0]
    exact ⟨He.glo_ok X G this.1, this.2⟩
  · have := List.all_eq_true.mp c2 _ (lookup_memG hF)
    rw [if_neg hC] at this
    simp only [Bool.and_eq_true, Bool.or_eq_true, beq_iff_eq] at this
    have := this.resolve_left hi
    rw [fnM C f hC]
    exact ⟨He.cls_ok this.1, He.meth_ok this.2⟩
  · have := List.all_eq_true.mp (Bool.and_eq_true_iff.mp c3).1 x hx
    exact He.free_ok X G this
  · have := List.all_eq_true.mp (Bool.and_eq_true_iff.mp c3).2 _ (lookup_memG hd)
    exact globB_ok X G this
  · have := List.all_eq_true.mp (List.all_eq_true.mp c4 _ (lookup_memG hl)) f (by simpa using hf)
    simp only [Bool.and_eq_true] at this
    exact ⟨He.cls_ok this.1, He.noat_ok this.2⟩
  · have := exn hl
    simp only [okExn, Bool.and_eq_true] at this
    have := List.all_eq_true.mp this.1 f (by simpa using hf)
    simp only [Bool.and_eq_true] at this
    exact ⟨xfB_ok this.1, He.eqO_ok this.2⟩
  · have := exn hl
    simp only [okExn, Bool.and_eq_true] at this
    exact ⟨He.glo_ok X G this.2.1, this.2.2.1⟩
  · obtain ⟨lx, hx⟩ := Option.isSome_iff_exists.mp hx
    obtain ⟨lC, hC⟩ := Option.isSome_iff_exists.mp hC
    have := exn hx
    simp only [okExn, Bool.and_eq_true] at this
    have := List.all_eq_true.mp this.2.2.2.1 _ (lookup_memG hC)
    exact of_decide_eq_true this
  · have := List.all_eq_true.mp c6 (C, n, ks) (by simpa using hs)
    simp only [Bool.and_eq_true, Bool.not_eq_true', beq_eq_false_iff_ne] at this
    obtain ⟨hC, h1, h2, h3⟩ := this
    rw [fnM C _ hC]
    refine ⟨He.glo_ok X G h1, He.mkr_ok h2, fun F d hF at_ => ?_⟩
    obtain ⟨e1, e2⟩ := psB_ok h3 at_
    exact ⟨e2 _ rfl, e1⟩
  · intro X' h1 h2 h3 h4 h5 hr C ns ws S v vs us pins σ s Q hl sim I r ru hn q
    have := exn hl
    simp only [okExn, Bool.and_eq_true] at this
    have hz := this.2.2.2.2.2
    clear this
    subst h1 h3 h4
    split at hz
    · rename_i he
      have he : ns = [] := by simpa using he
      subst he
      have hw : ws = [] := List.eq_nil_of_length_eq_zero (by simpa using hn.symm)
      subst hw
      cases r
      cases ru
      exact make0_ok rfl (x0B_ok hz) sim I q
    · obtain ⟨d, hd⟩ := xB_ok X G hz
      exact make_oex rfl hd hr sim I r ru hn q
  · have hb0 := hb
    unfold Prog.isx at hb
    split at hb
    · rename_i hc
      simp only [Bool.and_eq_true, Bool.or_eq_true, beq_iff_eq] at hc
      obtain ⟨lx, hx⟩ := Option.isSome_iff_exists.mp hc.1
      have := exn hx
      simp only [okExn, Bool.and_eq_true] at this
      have hi := this.2.2.2.2.1
      simp only [isxB, Bool.and_eq_true, decide_eq_true_eq] at hi
      refine ⟨xcB_ok hi.1, ?_⟩
      cases hC : P.exns.lookup C with
      | some lC =>
        have h1 := List.all_eq_true.mp hi.2.1 _ (lookup_memG hC)
        have h1 := of_decide_eq_true h1
        have h2 := exn hC
        simp only [okExn, Bool.and_eq_true] at h2
        exact .inl ⟨He.glo_ok X G h2.2.1, h1.trans hb0⟩
      | none =>
        rw [hC] at hc
        have he : C = "ValueError" := by
          rcases hc.2 with z | z
          · cases z
          · exact z
        subst he
        have hbt : b = true := by
          have := Option.some.inj hb
          rw [← this]
          rfl
        subst hbt
        exact .inr ⟨rfl, He.free_ok X G (List.all_eq_true.mp (Bool.and_eq_true_iff.mp c3).1 "ValueError" (by decide)), hi.2.2⟩
    · cases hb
  · intro X' h1 h2 h3 h4 h5 hr C ns ws S v vs us pins σ s Q hl sim I r ru hn q
    have := exn hl
    simp only [okExn, Bool.and_eq_true] at this
    have hz := this.2.2.2.2.2
    clear this
    subst h1 h3 h4
    split at hz
    · rename_i he
      have he : ns = [] := by simpa using he
      subst he
      have hw : ws = [] := List.eq_nil_of_length_eq_zero (by simpa using hn.symm)
      subst hw
      cases r
      cases ru
      exact mkx0_ok rfl (x0B_ok hz) sim I q
    · obtain ⟨d, hd⟩ := xB_ok X G hz
      exact mkx_ok rfl hd hr sim I r ru hn q
end Ev
end

section
set_option linter.all false
set_option autoImplicit false
/-! EvF3: the head's hook; the end. -/
namespace Ev
open PySem PySem.Spec PyProof.Rows L2
def obsN (as : List Addr) (ex : PySem.W.Frag → Bool) (g : Addr → Option Obj) : Bool := ex (frN g as)
def NoLst (K : PySem.W.Frag) : Prop := ∀ a o, K.lookup a = some o → o.cls ≠ .type "list"
def hookN (as : List Addr) (ex : PySem.W.Frag → Bool) : PySem.W.Hook where
  α := Bool
  obs := fun s => obsN as ex s.heap.get?
  val := fun _ => true
  says := fun _ h => ∃ K : PySem.W.Frag, K.In h ∧ NoLst K ∧ ex K = true
  of := fun _ _ e => ⟨_, frN_in, fun _ _ h => (frN_mem h).2, e⟩
  keeps := fun _ _ _ ⟨K, hK, c⟩ k => ⟨K, PySem.W.Frag.In.keeps hK k, c⟩
theorem obsN_eq {as : List Addr} {ex : PySem.W.Frag → Bool} {g : Addr → Option Obj} {s : Shared} (h : ∀ a, g a = s.heap.get? a) : obsN as ex g = (hookN as ex).obs s := by
  have e : g = s.heap.get? := funext h
  rw [e] <;> rfl
/-- two looks at one run -/
theorem run_and {r : PySem.W.OpenRow} {q : Program} {as : List Addr} {e1 e2 : PySem.W.Frag → Bool} {M : Nat} {loose : List Str} {w : World}
    (h1 : HandSHeadRun.RunEq r q (hookN as e1) (fun s => obsN as e1 (HandSHeadRun.getT s)) M loose w) (h2 : HandSHeadRun.RunEq r q (hookN as e2) (fun s => obsN as e2 (HandSHeadRun.getT s)) M loose w) :
    HandSHeadRun.RunEq r q (hookN as fun K => e1 K && e2 K) (fun s => obsN as (fun K => e1 K && e2 K) (HandSHeadRun.getT s)) M loose w := by
  intro os
  have a := h1 os
  have b := h2 os
  cases hx : HandSHeadRun.endF (HandSHeadRun.stepQ (HandSHeadRun.denQ HandSHeadRun.tabQ) r.prog w) M r.prog w os with
  | none =>
    rw [hx] at a
    cases a
  | some s =>
    rw [hx] at a b
    have a' := Option.some.inj a
    have b' := Option.some.inj b
    have a1 := congrArg (fun z => z.1) a'
    have a2 := congrArg (fun z => z.2.1) a'
    have a3 : e1 (frN (HandSHeadRun.getT s) as) = true := congrArg (fun z => z.2.2) a'
    have b3 : e2 (frN (HandSHeadRun.getT s) as) = true := congrArg (fun z => z.2.2) b'
    have c3 : (e1 (frN (HandSHeadRun.getT s) as) && e2 (frN (HandSHeadRun.getT s) as)) = true := by rw [a3, b3]; rfl
    exact congrArg some (Prod.ext a1 (Prod.ext a2 c3))
theorem walk_ofW {l : PySem.W.OpenLaw} {n k : Nat} {q : Program} {loose : List Str} {XP : (Str → Option Value) → Heap → Prop} {YP : World → Heap → Prop} {d : DefRec} {CX : World → CXT} {x : Str}
    (hn : l.most = some n) (hn2 : n ≤ sizeLine) (hdf : d.params.defaults = []) (hr : Room k callerA)
    (F : ∀ (w : World) (mg : Str → Option Value) (fa : Addr) (h : Heap), YP w h → h.Ns mainGlobals mg → mg d.name = some (.ref fa) →
      ∃ (K : PySem.W.Frag) (fd : FuncData) (sp : Sp), K.In h ∧ (∀ (s : Shared) (u : Value), BindsTo s fd ⟨[u], []⟩ [(x, u)]) ∧
        (∀ (H : Hp) (a : Addr) (ns : List Int), ns.length ≤ n → Only H → SqL K H a (ns.map V.int) → sp [.ref a] H (fun v _ => v = .bl true) fun _ _ _ => False) ∧
        ∀ base : Heap, K.In base → base.Ns mainGlobals mg → FnOk l.prog w K mg base (CX w) k fa fd [x] sp)
    (hCX : ∀ (w : World) (H : Hp) (s : Shared) (e : Value) (s' : Shared), CX w [] H s (fun _ _ _ => False) e s' → False) :
    PySem.W.WalkO q loose XP YP l.row.toRowW d [] (fun f vs => PySem.call f vs) := by
  refine Att.attach_call hn hdf fun w s₀ s₁ mg mb fa o pm cd doc a vs ns G Y ho hd hcd hmg hobj hints hlen hg => ?_
  obtain ⟨K, fd, sp, KX, hb, hsp, hF⟩ := F w mg fa _ Y G.T.g hmg
  exact law_call KX G.T.g G.T.b G.T.builtins G.T.nolimit hg hobj hints (Nat.le_trans hlen hn2) hr hF hb (fun H hO hS => hsp H a ns hlen hO hS) fun H e s' => hCX w H s₁ e s'
theorem CX_no {prog : Program} (w : World) (H : Hp) (s : Shared) (e : Value) (s' : Shared) (h : L2.CX prog w [] H s (fun _ _ _ => False) e s') : False := by
  obtain ⟨_, _, _, _, _, _, _, _, _, _, _, _, z⟩ := h
  exact z
theorem reps_ints {K : PySem.W.Frag} {M : Names} {v : Vw} : ∀ ns : List Int, RepWs K M v (ns.map fun x => W.d (.int x)) (ns.map V.int)
  | [] => rfl
  | n :: ns => ⟨_, _, rfl, by simp [RepW, Rep], reps_ints ns⟩
theorem end_ok {P : Prog} {PN : List ((String × String) × List String)} {prog : Program} {w : World} {K : PySem.W.Frag} {h : Heap} {mg : Str → Option Value} {fuel k : Nat} {F : Fn} {fa : Addr} {x : String} {xs : List String} {n : Nat}
    (X : K.In h) (G : h.Ns mainGlobals mg) (nl : NoLst K) (c : okB P PN prog K = true) (hF : P.fns.lookup ("", "law") = some F) (hN : PN.lookup ("", "law") = some (x :: xs)) (hps : F.ps = 1) (hmg : mg (sx "law") = some (.ref fa))
    (law : ∀ ns : List Int, ∃ T, run P fuel k "" "law" [.r 0] [.fro (ns.map fun x => W.d (.int x))] = .ok (.d (.bl true)) T) :
    ∃ (K : PySem.W.Frag) (fd : FuncData) (sp : Sp), K.In h ∧ (∀ (s : Shared) (u : Value), BindsTo s fd ⟨[u], []⟩ [(sx x, u)]) ∧
        (∀ (H : Hp) (a : Addr) (ns : List Int), ns.length ≤ n → Only H → SqL K H a (ns.map V.int) → sp [.ref a] H (fun v _ => v = .bl true) fun _ _ _ => False) ∧
        ∀ base : Heap, K.In base → base.Ns mainGlobals mg → FnOk prog w K mg base (L2.CX prog w) (2 * k) fa fd [sx x] sp := by
  have PF : ProgOk P K (nmM K) mg prog w := okB_ok X G c
  have c1 := (Bool.and_eq_true_iff.mp c).1
  have c1 := List.all_eq_true.mp c1 _ (lookup_memG hF)
  simp only [Bool.and_eq_true, Bool.or_eq_true, beq_iff_eq, hN, Option.getD_some, List.map_cons] at c1
  obtain ⟨d, at_, dN⟩ := fnB_ok c1.1
  have hk : d.Kn = [] := (psB_ok (c1.2.resolve_left (by decide)) at_).1
  have hP : d.P ++ d.Kn = [sx x] := by
    have h1 := at_.sc.pre
    rw [at_.np, hps, dN] at h1
    exact h1.symm
  have hP' : d.P = [sx x] := by rw [hk, List.append_nil] at hP; exact hP
  have hfa : fa = (nmM K).fnA "" "law" := by
    have := hmg.symm.trans (PF.defs "law" F hF).1
    cases this
    rfl
  subst hfa
  refine ⟨K, d.fd, spOf P K (nmM K) fuel k "" "law" F, X, fun s u => ?_, fun H a ns hl hO hS => ?_, fun base hb1 hb2 => ?_⟩
  · have := at_.bindP (s := s) (us := [u]) (zus := []) (by rw [hP']; rfl) (by rw [hk]; rfl)
    rw [hP, hk] at this
    exact this
  · have hfr : ∃ o, H a = some (.frz o (.lst (ns.map V.int))) := by
      rcases hS with hS | ⟨o, its, m, hk, hc, _⟩
      · rcases hO a with h0 | ⟨o, xs, h0⟩
        · rcases hS with h1 | ⟨o, h1⟩
          · rw [h0] at h1; cases h1
          · rw [h0] at h1; cases h1
        · rcases hS with h1 | ⟨o', h1⟩
          · rw [h0] at h1; cases h1
          · exact ⟨_, h1⟩
      · exact absurd hc (nl a o hk)
    obtain ⟨o, ho⟩ := hfr
    obtain ⟨T, hT⟩ := law ns
    refine ⟨[.r 0], [.fro (ns.map fun x => W.d (.int x))], ⟨H, fun _ => a, 1⟩, rfl, ⟨rfl, fun i j hi hj _ => by
      show i = j
      have hi : i < 1 := hi
      have hj : j < 1 := hj
      omega, fun i u hu => ?_⟩, ⟨.ref a, [], rfl, ⟨Nat.one_pos, rfl⟩, rfl⟩, hps.symm, ?_⟩
    · cases i with
      | zero =>
        simp only [List.getElem?_cons_zero, Option.some.injEq] at hu
        subst hu
        exact ⟨o, _, ho, reps_ints ns⟩
      | succ i => simp at hu
    · rw [hT]
      intro v' _ _ y hy
      simpa [RepW, Rep] using hy
  · have := fns_ok (fuel := fuel) (base := base) PF k "" "law" F d hF at_
    rw [hP] at this
    exact this
end Ev
end

section
set_option linter.all false
namespace Ev
def f__law_pool_c1 : E := (.o1 .int_ (.v 2))
def f__law_pool_c2 : E := (.o1 .abs_ (.v 2))
def f__law_pool_q1 : Es := (.cons (.o2 .ge (.o1 .abs_ (.v 2)) (.o2 .pow (.k (.int 10)) (.k (.int 18)))) .nil)
def f__law_pool_c3 : E := (.o2 .mod (.o1 .int_ (.v 2)) (.k (.int 1000003)))
def f__law_pool_q2 : Es := (.cons (.o2 .lt (.o1 .abs_ (.v 2)) (.o2 .pow (.k (.int 10)) (.k (.int 18)))) .nil)
/-- _law_pool(_law_script 0, _law_cells 1, _law_cell 2, _law_great 3, _law_small 4) -/
def f__law_pool : Fn := ⟨1, 5,
 (.seq (.set (.n 1) (.lc f__law_pool_c1 (.n 2) (.of (.sl (.v 0) (.k .non) (.k (.int 63)))) .nil))
 (.seq (.set (.n 3) (.lc f__law_pool_c2 (.n 2) (.of (.v 1)) f__law_pool_q1))
 (.seq (.set (.n 4) (.lc f__law_pool_c3 (.n 2) (.of (.v 1)) f__law_pool_q2))
 (.ret (.lst (.cons (.v 3) (.cons (.v 4) (.cons (.k (.int 0)) (.cons (.k (.int 0)) .nil)))))))))⟩
/-- _law_draw(_law_pool_here 0, _law_many 1, _law_great 2, _law_digit 3, _law_seed 4, _law_number 5) -/
def f__law_draw : Fn := ⟨2, 6,
 (.seq (.if_ (.and (.o2 .eq (.o2 .idx (.v 0) (.k (.int 2))) (.k (.int 0))) (.o2 .gt (.o1 .len (.o2 .idx (.v 0) (.k (.int 0)))) (.k (.int 0))))
 (.seq (.set (.n 2) (.o2 .idx (.v 0) (.k (.int 0))))
 (.seq (.setI (.v 0) (.k (.int 2)) (.o2 .idx (.v 2) (.k (.int 0))))
 (.setI (.v 0) (.k (.int 0)) (.sl (.v 2) (.k (.int 1)) (.k .non)))))
 .nil)
 (.seq (.if_ (.o2 .gt (.o2 .idx (.v 0) (.k (.int 2))) (.k (.int 0)))
 (.seq (.set (.n 3) (.o2 .mod (.o1 .int_ (.o2 .idx (.v 0) (.k (.int 2)))) (.v 1)))
 (.seq (.setI (.v 0) (.k (.int 2)) (.o2 .fdiv (.o2 .idx (.v 0) (.k (.int 2))) (.v 1)))
 (.ret (.v 3))))
 .nil)
 (.seq (.setI (.v 0) (.k (.int 3)) (.o2 .add (.o2 .idx (.v 0) (.k (.int 3))) (.k (.int 1))))
 (.seq (.set (.n 4) (.k (.int 0)))
 (.seq (.if_ (.o2 .gt (.o1 .len (.o2 .idx (.v 0) (.k (.int 1)))) (.k (.int 0)))
 (.set (.n 4) (.o2 .idx (.o2 .idx (.v 0) (.k (.int 1))) (.o2 .mod (.o1 .int_ (.o2 .idx (.v 0) (.k (.int 3)))) (.o1 .len (.o2 .idx (.v 0) (.k (.int 1)))))))
 .nil)
 (.seq (.set (.n 5) (.o2 .mod (.o1 .int_ (.o2 .mul (.o2 .add (.o2 .add (.v 4) (.o2 .mul (.k (.int 8191)) (.o2 .idx (.v 0) (.k (.int 3))))) (.k (.int 1))) (.k (.int 48271)))) (.k (.int 2147483647))))
 (.seq (.set (.n 5) (.o2 .mod (.o1 .int_ (.o2 .mul (.v 5) (.o2 .add (.o2 .fdiv (.v 5) (.k (.int 1013))) (.k (.int 69621))))) (.k (.int 2147483647))))
 (.seq (.set (.n 5) (.o2 .mod (.o1 .int_ (.o2 .mul (.v 5) (.o2 .add (.o2 .fdiv (.v 5) (.k (.int 2011))) (.k (.int 40692))))) (.k (.int 2147483399))))
 (.ret (.o2 .mod (.o1 .int_ (.o2 .fdiv (.v 5) (.k (.int 16)))) (.v 1)))))))))))⟩
/-- _law_pick(_law_pool_here 0, _law_items 1) -/
def f__law_pick : Fn := ⟨2, 2,
 (.ret (.o2 .idx (.v 1) (.call "_law_draw" (.cons (.v 0) (.cons (.o1 .len (.v 1)) .nil)))))⟩
def f__law_name_b1 : S := (.set (.n 4) (.o2 .add (.v 4) (.o2 .idx (.v 2) (.call "_law_draw" (.cons (.v 0) (.cons (.k (.int 26)) .nil))))))
/-- _law_name(_law_pool_here 0, _law_taken 1, _law_letters 2, _law_size 3, _law_word 4, _law_k 5) -/
def f__law_name : Fn := ⟨2, 6,
 (.seq (.set (.n 2) (.k (.str ['a', 'b', 'c', 'd', 'e', 'f', 'g', 'h', 'i', 'j', 'k', 'l', 'm', 'n', 'o', 'p', 'q', 'r', 's', 't', 'u', 'v', 'w', 'x', 'y', 'z'])))
 (.seq (.set (.n 3) (.o2 .idx (.tup (.cons (.k (.int 1)) (.cons (.k (.int 1)) (.cons (.k (.int 2)) (.cons (.k (.int 2)) (.cons (.k (.int 3)) (.cons (.k (.int 8)) .nil))))))) (.call "_law_draw" (.cons (.v 0) (.cons (.k (.int 6)) .nil)))))
 (.seq (.set (.n 4) (.o2 .idx (.v 2) (.call "_law_draw" (.cons (.v 0) (.cons (.o2 .sub (.k (.int 26)) (.o1 .int_ (.o2 .eq (.v 3) (.k (.int 8))))) .nil)))))
 (.seq (.for_ (.n 5) (.rng1 (.o2 .sub (.v 3) (.k (.int 1))))
 f__law_name_b1)
 (.seq (.if_ (.o2 .isin (.v 4) (.v 1))
 (.ret (.o2 .add (.k (.str ['z', 'z', 'z', 'z', 'z', 'z', 'z'])) (.o2 .idx (.v 2) (.o1 .len (.v 1)))))
 .nil)
 (.ret (.v 4)))))))⟩
def f__law_names_b1 : S := (.ex (.app (.v 2) (.call "_law_name" (.cons (.v 0) (.cons (.v 2) .nil)))))
/-- _law_names(_law_pool_here 0, _law_count 1, _law_names_here 2, _law_k 3) -/
def f__law_names : Fn := ⟨2, 4,
 (.seq (.set (.n 2) (.lst .nil))
 (.seq (.for_ (.n 3) (.rng1 (.v 1))
 f__law_names_b1)
 (.ret (.v 2))))⟩
def f__law_same_c1 : E := (.call "_law_same" (.cons (.v 2) (.cons (.v 3) .nil)))
def f__law_same_c2 : E := (.call "_law_same" (.cons (.v 2) (.cons (.v 3) .nil)))
/-- _law_same(_law_a 0, _law_b 1, _law_x 2, _law_y 3) -/
def f__law_same : Fn := ⟨2, 4,
 (.seq (.if_ (.isi (.v 1) .tuple)
 (.seq (.if_ (.or (.not (.isi (.v 0) .tuple)) (.o2 .ne (.o1 .len (.v 0)) (.o1 .len (.v 1))))
 (.ret (.k (.bl false)))
 .nil)
 (.ret (.onl .all_ (.lc f__law_same_c1 (.t [(.n 2), (.n 3)]) (.zip (.v 0) (.v 1)) .nil))))
 .nil)
 (.seq (.if_ (.isi (.v 1) .list)
 (.seq (.if_ (.or (.not (.isi (.v 0) .list)) (.o2 .ne (.o1 .len (.v 0)) (.o1 .len (.v 1))))
 (.ret (.k (.bl false)))
 .nil)
 (.ret (.onl .all_ (.lc f__law_same_c2 (.t [(.n 2), (.n 3)]) (.zip (.v 0) (.v 1)) .nil))))
 .nil)
 (.seq (.if_ (.o1 .isNone (.v 1))
 (.ret (.o1 .isNone (.v 0)))
 .nil)
 (.seq (.if_ (.isi (.v 1) .bool)
 (.ret (.and (.isi (.v 0) .bool) (.o2 .eq (.v 0) (.v 1))))
 .nil)
 (.seq (.if_ (.isi (.v 1) .int)
 (.ret (.and (.isi (.v 0) .int) (.and (.not (.isi (.v 0) .bool)) (.o2 .eq (.v 0) (.v 1)))))
 .nil)
 (.ret (.and (.isi (.v 0) .str) (.o2 .eq (.v 0) (.v 1)))))))))⟩
/-- _law_first(_law_e 0, _law_found 1) -/
def f__law_first : Fn := ⟨1, 2,
 (.seq (.set (.n 1) (.lst (.cons (.isi (.v 0) (.cls "BadDeed")) (.cons (.isi (.v 0) (.cls "BadFault")) (.cons (.isi (.v 0) (.cls "BadJournal")) (.cons (.isi (.v 0) (.cls "BatchRefused")) .nil))))))
 (.seq (.set (.n 1) (.o2 .add (.v 1) (.lst (.cons (.isi (.v 0) (.cls "InvalidApp")) (.cons (.isi (.v 0) (.cls "InvalidBound")) (.cons (.isi (.v 0) (.cls "InvalidChange")) .nil))))))
 (.ret (.o2 .add (.v 1) (.lst (.cons (.isi (.v 0) (.cls "InvalidExpr")) (.cons (.isi (.v 0) (.cls "InvalidKind")) (.cons (.isi (.v 0) (.cls "InvalidParts")) .nil))))))))⟩
/-- _law_second(_law_e 0, _law_found 1) -/
def f__law_second : Fn := ⟨1, 2,
 (.seq (.set (.n 1) (.lst (.cons (.isi (.v 0) (.cls "InvalidRule")) (.cons (.isi (.v 0) (.cls "InvalidRules")) (.cons (.isi (.v 0) (.cls "InvalidText")) .nil)))))
 (.seq (.set (.n 1) (.o2 .add (.v 1) (.lst (.cons (.isi (.v 0) (.cls "InvalidWindows")) (.cons (.isi (.v 0) (.cls "LimitExceeded")) (.cons (.isi (.v 0) (.cls "NoFault")) .nil))))))
 (.seq (.set (.n 1) (.o2 .add (.v 1) (.lst (.cons (.isi (.v 0) (.cls "NoPart")) (.cons (.isi (.v 0) (.cls "NoSlot")) (.cons (.isi (.v 0) (.cls "NoStanding")) .nil))))))
 (.seq (.set (.n 1) (.o2 .add (.v 1) (.lst (.cons (.isi (.v 0) (.cls "NotComparable")) (.cons (.isi (.v 0) (.cls "NotSaved")) (.cons (.isi (.v 0) (.cls "NothingToRedo")) .nil))))))
 (.ret (.o2 .add (.v 1) (.lst (.cons (.isi (.v 0) (.cls "NothingToUndo")) .nil))))))))⟩
def f__law_alone_b1 : S := (.if_ (.o2 .ne (.o2 .idx (.v 2) (.v 3)) (.o2 .eq (.v 3) (.v 1)))
 (.ret (.k (.bl false)))
 .nil)
/-- _law_alone(_law_e 0, _law_place 1, _law_kinds 2, _law_k 3) -/
def f__law_alone : Fn := ⟨2, 4,
 (.seq (.set (.n 2) (.o2 .add (.call "_law_first" (.cons (.v 0) .nil)) (.call "_law_second" (.cons (.v 0) .nil))))
 (.seq (.for_ (.n 3) (.rng1 (.o1 .len (.v 2)))
 f__law_alone_b1)
 (.ret (.and (.isi (.v 0) (.cls "SessionError")) (.isi (.v 0) (.cls "ValueError"))))))⟩
/-- _law_made(_law_some 0, _law_number 1, _law_path 2, _law_name_here 3, _law_first_here 4) -/
def f__law_made : Fn := ⟨4, 5,
 (.seq (.set (.n 4) (.lst (.cons (.mkx "BadDeed" (.cons (.v 0) .nil)) (.cons (.mkx "BadFault" (.cons (.v 0) .nil)) (.cons (.mkx "BadJournal" (.cons (.v 1) .nil)) (.cons (.mkx "BatchRefused" (.cons (.v 1) .nil)) (.cons (.mkx "InvalidApp" (.cons (.v 3) (.cons (.v 2) .nil))) .nil)))))))
 (.seq (.set (.n 4) (.o2 .add (.v 4) (.lst (.cons (.mkx "InvalidBound" (.cons (.v 0) .nil)) (.cons (.mkx "InvalidChange" (.cons (.v 1) .nil)) (.cons (.mkx "InvalidExpr" (.cons (.v 2) .nil)) (.cons (.mkx "InvalidKind" (.cons (.v 0) .nil)) .nil)))))))
 (.seq (.set (.n 4) (.o2 .add (.v 4) (.lst (.cons (.mkx "InvalidParts" (.cons (.v 1) .nil)) (.cons (.mkx "InvalidRule" (.cons (.v 3) .nil)) (.cons (.mkx "InvalidRules" .nil) (.cons (.mkx "InvalidText" (.cons (.v 1) .nil)) (.cons (.mkx "InvalidWindows" (.cons (.v 3) .nil)) .nil))))))))
 (.seq (.set (.n 4) (.o2 .add (.v 4) (.lst (.cons (.mkx "LimitExceeded" (.cons (.o2 .add (.v 1) (.k (.int 1))) .nil)) (.cons (.mkx "NoFault" (.cons (.v 0) (.cons (.v 3) .nil))) (.cons (.mkx "NoPart" (.cons (.v 0) .nil)) (.cons (.mkx "NoSlot" (.cons (.v 0) .nil)) (.cons (.mkx "NoStanding" .nil) .nil))))))))
 (.ret (.o2 .add (.v 4) (.lst (.cons (.mkx "NotComparable" (.cons (.v 3) .nil)) (.cons (.mkx "NotSaved" .nil) (.cons (.mkx "NothingToRedo" .nil) (.cons (.mkx "NothingToUndo" .nil) .nil)))))))))))⟩
/-- _law_fields(_law_made_here 0, _law_first_here 1) -/
def f__law_fields : Fn := ⟨1, 2,
 (.seq (.set (.n 1) (.lst (.cons (.at (.o2 .idx (.v 0) (.k (.int 0))) "deed") (.cons (.at (.o2 .idx (.v 0) (.k (.int 1))) "fault") (.cons (.at (.o2 .idx (.v 0) (.k (.int 2))) "index") (.cons (.at (.o2 .idx (.v 0) (.k (.int 3))) "index") (.cons (.at (.o2 .idx (.v 0) (.k (.int 4))) "part") (.cons (.at (.o2 .idx (.v 0) (.k (.int 4))) "path") (.cons (.at (.o2 .idx (.v 0) (.k (.int 5))) "value") .nil)))))))))
 (.seq (.set (.n 1) (.o2 .add (.v 1) (.lst (.cons (.at (.o2 .idx (.v 0) (.k (.int 6))) "index") (.cons (.at (.o2 .idx (.v 0) (.k (.int 7))) "path") (.cons (.at (.o2 .idx (.v 0) (.k (.int 8))) "kind") (.cons (.at (.o2 .idx (.v 0) (.k (.int 9))) "index") (.cons (.at (.o2 .idx (.v 0) (.k (.int 10))) "part") (.cons (.at (.o2 .idx (.v 0) (.k (.int 12))) "line") .nil)))))))))
 (.seq (.set (.n 1) (.o2 .add (.v 1) (.lst (.cons (.at (.o2 .idx (.v 0) (.k (.int 13))) "part") (.cons (.at (.o2 .idx (.v 0) (.k (.int 14))) "limit") (.cons (.at (.o2 .idx (.v 0) (.k (.int 15))) "kind") (.cons (.at (.o2 .idx (.v 0) (.k (.int 15))) "name") (.cons (.at (.o2 .idx (.v 0) (.k (.int 16))) "value") (.cons (.at (.o2 .idx (.v 0) (.k (.int 17))) "slot") .nil)))))))))
 (.ret (.o2 .add (.v 1) (.lst (.cons (.at (.o2 .idx (.v 0) (.k (.int 19))) "part") .nil)))))))⟩
/-- _law_due(_law_some 0, _law_number 1, _law_path 2, _law_name_here 3, _law_first_here 4) -/
def f__law_due : Fn := ⟨4, 5,
 (.seq (.set (.n 4) (.lst (.cons (.v 0) (.cons (.v 0) (.cons (.v 1) (.cons (.v 1) (.cons (.v 3) (.cons (.v 2) (.cons (.v 0) (.cons (.v 1) (.cons (.v 2) (.cons (.v 0) (.cons (.v 1) (.cons (.v 3) (.cons (.v 1) .nil)))))))))))))))
 (.ret (.o2 .add (.v 4) (.lst (.cons (.v 3) (.cons (.o2 .add (.v 1) (.k (.int 1))) (.cons (.v 0) (.cons (.v 3) (.cons (.v 0) (.cons (.v 0) (.cons (.v 3) .nil)))))))))))⟩
/-- _law_raised(_law_way 0, _law_some 1, _law_number 2, _law_name_here 3, _law_e 4, _law_kinds 5) -/
def f__law_raised : Fn := ⟨4, 6,
 (.seq (.try_ (.seq (.if_ (.o2 .eq (.v 0) (.k (.int 0)))
 (.raise "BadDeed" (.cons (.v 1) .nil))
 .nil)
 (.seq (.if_ (.o2 .eq (.v 0) (.k (.int 1)))
 (.raise "NotComparable" (.cons (.v 3) .nil))
 .nil)
 (.seq (.if_ (.o2 .eq (.v 0) (.k (.int 2)))
 (.raise "NothingToUndo" .nil)
 .nil)
 (.raise "LimitExceeded" (.cons (.o2 .add (.v 2) (.k (.int 1))) .nil)))))
 "SessionError" (some 4)
 (.set (.n 5) (.o2 .add (.callx "_law_first" 4) (.callx "_law_second" 4))))
 (.ret (.o2 .index (.v 5) (.k (.bl true)))))⟩
def f_law_c1 : E := (.call "_law_draw" (.cons (.v 1) (.cons (.k (.int 12)) .nil)))
def f_law_b1 : S := (.if_ (.not (.call "_law_alone" (.cons (.o2 .idx (.v 8) (.v 5)) (.cons (.v 5) .nil))))
 (.ret (.k (.bl false)))
 .nil)
def f_law_s1 : S := (.set (.n 1) (.call "_law_pool" (.cons (.v 0) .nil)))
def f_law_s2 : S := (.set (.n 2) (.call "_law_draw" (.cons (.v 1) (.cons (.k (.int 4)) .nil))))
def f_law_s3 : S := (.set (.n 3) (.call "_law_draw" (.cons (.v 1) (.cons (.o2 .pow (.k (.int 10)) (.k (.int 6))) .nil))))
def f_law_s4 : S := (.set (.n 4) (.onl .tuple_ (.lc f_law_c1 (.n 5) (.rng1 (.call "_law_draw" (.cons (.v 1) (.cons (.k (.int 7)) .nil)))) .nil)))
def f_law_s5 : S := (.set (.n 6) (.call "_law_name" (.cons (.v 1) (.cons (.lst .nil) .nil))))
def f_law_s6 : S := (.set (.n 7) (.call "_law_pick" (.cons (.v 1) (.cons (.lst (.cons (.k (.int 0)) (.cons (.k (.int 7)) (.cons (.o1 .neg (.k (.int 1))) (.cons (.k (.str [])) (.cons (.k (.str ['Q'])) (.cons (.k .non) (.cons (.tup .nil) (.cons (.tup (.cons (.k (.int 1)) (.cons (.k (.int 2)) .nil))) (.cons (.k (.bl true)) (.cons (.lst (.cons (.k (.int 3)) .nil)) (.cons (.tup (.cons (.k (.str ['g', 'o'])) (.cons (.k (.str ['a'])) .nil))) (.cons (.o2 .pow (.k (.int 10)) (.k (.int 30))) (.cons (.v 6) (.cons (.v 4) .nil))))))))))))))) .nil))))
def f_law_s7 : S := (.set (.n 8) (.call "_law_made" (.cons (.v 7) (.cons (.v 3) (.cons (.v 4) (.cons (.v 6) .nil))))))
def f_law_s8 : S := (.for_ (.n 5) (.rng1 (.o1 .len (.v 8)))
 f_law_b1)
def f_law_s9 : S := (.if_ (.not (.call "_law_same" (.cons (.call "_law_fields" (.cons (.v 8) .nil)) (.cons (.call "_law_due" (.cons (.v 7) (.cons (.v 3) (.cons (.v 4) (.cons (.v 6) .nil))))) .nil))))
 (.ret (.k (.bl false)))
 .nil)
def f_law_s10 : S := (.ret (.o2 .eq (.call "_law_raised" (.cons (.v 2) (.cons (.v 7) (.cons (.v 3) (.cons (.v 6) .nil))))) (.o2 .idx (.tup (.cons (.k (.int 0)) (.cons (.k (.int 19)) (.cons (.k (.int 22)) (.cons (.k (.int 14)) .nil))))) (.v 2))))
/-- law(_law_script 0, _law_pool_here 1, _law_way 2, _law_number 3, _law_path 4, _law_k 5, _law_name_here 6, _law_some 7, _law_made_here 8) -/
def f_law : Fn := ⟨1, 9,
 (.seq f_law_s1
 (.seq f_law_s2
 (.seq f_law_s3
 (.seq f_law_s4
 (.seq f_law_s5
 (.seq f_law_s6
 (.seq f_law_s7
 (.seq f_law_s8
 (.seq f_law_s9
 f_law_s10)))))))))⟩
def P : Prog where
  fns := [(("", "_law_pool"), f__law_pool), (("", "_law_draw"), f__law_draw), (("", "_law_pick"), f__law_pick), (("", "_law_name"), f__law_name), (("", "_law_names"), f__law_names), (("", "_law_same"), f__law_same), (("", "_law_first"), f__law_first), (("", "_law_second"), f__law_second), (("", "_law_alone"), f__law_alone), (("", "_law_made"), f__law_made), (("", "_law_fields"), f__law_fields), (("", "_law_due"), f__law_due), (("", "_law_raised"), f__law_raised), (("", "law"), f_law)]
  globs := []
  exns := [("SessionError", []), ("InvalidExpr", ["path"]), ("InvalidApp", ["part", "path"]), ("NoPart", ["value"]), ("InvalidRule", ["part"]), ("BadDeed", ["deed"]), ("BadFault", ["fault"]), ("NoSlot", ["slot"]), ("BatchRefused", ["index"]), ("NothingToUndo", []), ("NothingToRedo", []), ("BadJournal", ["index"]), ("NotSaved", []), ("InvalidWindows", ["part"]), ("NoFault", ["kind", "name"]), ("InvalidParts", ["index"]), ("InvalidBound", ["value"]), ("LimitExceeded", ["limit"]), ("NoStanding", []), ("InvalidKind", ["kind"]), ("NotComparable", ["part"]), ("InvalidRules", []), ("InvalidChange", ["index"]), ("InvalidText", ["line"])]
  subs := [("InvalidExpr", "SessionError"), ("InvalidApp", "SessionError"), ("NoPart", "SessionError"), ("InvalidRule", "SessionError"), ("BadDeed", "SessionError"), ("BadFault", "SessionError"), ("NoSlot", "SessionError"), ("BatchRefused", "SessionError"), ("NothingToUndo", "SessionError"), ("NothingToRedo", "SessionError"), ("BadJournal", "SessionError"), ("NotSaved", "SessionError"), ("InvalidWindows", "SessionError"), ("NoFault", "SessionError"), ("InvalidParts", "SessionError"), ("InvalidBound", "SessionError"), ("LimitExceeded", "SessionError"), ("NoStanding", "SessionError"), ("InvalidKind", "SessionError"), ("NotComparable", "SessionError"), ("InvalidRules", "SessionError"), ("InvalidChange", "SessionError"), ("InvalidText", "SessionError")]
  frozen := [""]
  flds := []
  shapes := []
/-- the names of each def, the parameters ahead -/
def PN : List ((String × String) × List String) := [(("", "_law_pool"), ["_law_script", "_law_cells", "_law_cell", "_law_great", "_law_small"]),
  (("", "_law_draw"), ["_law_pool_here", "_law_many", "_law_great", "_law_digit", "_law_seed", "_law_number"]),
  (("", "_law_pick"), ["_law_pool_here", "_law_items"]),
  (("", "_law_name"), ["_law_pool_here", "_law_taken", "_law_letters", "_law_size", "_law_word", "_law_k"]),
  (("", "_law_names"), ["_law_pool_here", "_law_count", "_law_names_here", "_law_k"]),
  (("", "_law_same"), ["_law_a", "_law_b", "_law_x", "_law_y"]),
  (("", "_law_first"), ["_law_e", "_law_found"]),
  (("", "_law_second"), ["_law_e", "_law_found"]),
  (("", "_law_alone"), ["_law_e", "_law_place", "_law_kinds", "_law_k"]),
  (("", "_law_made"), ["_law_some", "_law_number", "_law_path", "_law_name_here", "_law_first_here"]),
  (("", "_law_fields"), ["_law_made_here", "_law_first_here"]),
  (("", "_law_due"), ["_law_some", "_law_number", "_law_path", "_law_name_here", "_law_first_here"]),
  (("", "_law_raised"), ["_law_way", "_law_some", "_law_number", "_law_name_here", "_law_e", "_law_kinds"]),
  (("", "law"), ["_law_script", "_law_pool_here", "_law_way", "_law_number", "_law_path", "_law_k", "_law_name_here", "_law_some", "_law_made_here"])]
variable {fuel : Nat} {k : Nat} {S : Store}
theorem lk__law_pool : P.fns.lookup ("", "_law_pool") = some f__law_pool := rfl
theorem run__law_pool {w0 : W} : run P fuel (k + 1) "" "_law_pool" [w0] S = fin S (dS (P.cx fuel (run P fuel k)) f__law_pool.body [some w0, none, none, none, none] S) := by rw [run, lk__law_pool]; rfl
theorem lk__law_draw : P.fns.lookup ("", "_law_draw") = some f__law_draw := rfl
theorem run__law_draw {w0 w1 : W} : run P fuel (k + 1) "" "_law_draw" [w0, w1] S = fin S (dS (P.cx fuel (run P fuel k)) f__law_draw.body [some w0, some w1, none, none, none, none] S) := by rw [run, lk__law_draw]; rfl
theorem lk__law_pick : P.fns.lookup ("", "_law_pick") = some f__law_pick := rfl
theorem run__law_pick {w0 w1 : W} : run P fuel (k + 1) "" "_law_pick" [w0, w1] S = fin S (dS (P.cx fuel (run P fuel k)) f__law_pick.body [some w0, some w1] S) := by rw [run, lk__law_pick]; rfl
theorem lk__law_name : P.fns.lookup ("", "_law_name") = some f__law_name := rfl
theorem run__law_name {w0 w1 : W} : run P fuel (k + 1) "" "_law_name" [w0, w1] S = fin S (dS (P.cx fuel (run P fuel k)) f__law_name.body [some w0, some w1, none, none, none, none] S) := by rw [run, lk__law_name]; rfl
theorem lk__law_names : P.fns.lookup ("", "_law_names") = some f__law_names := rfl
theorem run__law_names {w0 w1 : W} : run P fuel (k + 1) "" "_law_names" [w0, w1] S = fin S (dS (P.cx fuel (run P fuel k)) f__law_names.body [some w0, some w1, none, none] S) := by rw [run, lk__law_names]; rfl
theorem lk__law_same : P.fns.lookup ("", "_law_same") = some f__law_same := rfl
theorem run__law_same {w0 w1 : W} : run P fuel (k + 1) "" "_law_same" [w0, w1] S = fin S (dS (P.cx fuel (run P fuel k)) f__law_same.body [some w0, some w1, none, none] S) := by rw [run, lk__law_same]; rfl
theorem lk__law_first : P.fns.lookup ("", "_law_first") = some f__law_first := rfl
theorem run__law_first {w0 : W} : run P fuel (k + 1) "" "_law_first" [w0] S = fin S (dS (P.cx fuel (run P fuel k)) f__law_first.body [some w0, none] S) := by rw [run, lk__law_first]; rfl
theorem lk__law_second : P.fns.lookup ("", "_law_second") = some f__law_second := rfl
theorem run__law_second {w0 : W} : run P fuel (k + 1) "" "_law_second" [w0] S = fin S (dS (P.cx fuel (run P fuel k)) f__law_second.body [some w0, none] S) := by rw [run, lk__law_second]; rfl
theorem lk__law_alone : P.fns.lookup ("", "_law_alone") = some f__law_alone := rfl
theorem run__law_alone {w0 w1 : W} : run P fuel (k + 1) "" "_law_alone" [w0, w1] S = fin S (dS (P.cx fuel (run P fuel k)) f__law_alone.body [some w0, some w1, none, none] S) := by rw [run, lk__law_alone]; rfl
theorem lk__law_made : P.fns.lookup ("", "_law_made") = some f__law_made := rfl
theorem run__law_made {w0 w1 w2 w3 : W} : run P fuel (k + 1) "" "_law_made" [w0, w1, w2, w3] S = fin S (dS (P.cx fuel (run P fuel k)) f__law_made.body [some w0, some w1, some w2, some w3, none] S) := by rw [run, lk__law_made]; rfl
theorem lk__law_fields : P.fns.lookup ("", "_law_fields") = some f__law_fields := rfl
theorem run__law_fields {w0 : W} : run P fuel (k + 1) "" "_law_fields" [w0] S = fin S (dS (P.cx fuel (run P fuel k)) f__law_fields.body [some w0, none] S) := by rw [run, lk__law_fields]; rfl
theorem lk__law_due : P.fns.lookup ("", "_law_due") = some f__law_due := rfl
theorem run__law_due {w0 w1 w2 w3 : W} : run P fuel (k + 1) "" "_law_due" [w0, w1, w2, w3] S = fin S (dS (P.cx fuel (run P fuel k)) f__law_due.body [some w0, some w1, some w2, some w3, none] S) := by rw [run, lk__law_due]; rfl
theorem lk__law_raised : P.fns.lookup ("", "_law_raised") = some f__law_raised := rfl
theorem run__law_raised {w0 w1 w2 w3 : W} : run P fuel (k + 1) "" "_law_raised" [w0, w1, w2, w3] S = fin S (dS (P.cx fuel (run P fuel k)) f__law_raised.body [some w0, some w1, some w2, some w3, none, none] S) := by rw [run, lk__law_raised]; rfl
theorem lk_law : P.fns.lookup ("", "law") = some f_law := rfl
theorem run_law {w0 : W} : run P fuel (k + 1) "" "law" [w0] S = fin S (dS (P.cx fuel (run P fuel k)) f_law.body [some w0, none, none, none, none, none, none, none, none] S) := by rw [run, lk_law]; rfl
end Ev
end

section
set_option linter.all false
set_option autoImplicit false
/-! EvW: running the evaluator by hand: small lemmas. -/
namespace Ev
@[simp ↓] theorem R.bind_ok' {α β : Type} (a : α) (S : Store) (f : α → Store → R β) : R.bind (.ok a S) f = f a S := rfl
@[simp ↓] theorem R.bind_err' {α β : Type} (x : Exn) (S : Store) (f : α → Store → R β) : R.bind (.err x S : R α) f = .err x S := rfl
/-- the turns of a for, of a comprehension -/
def turn (c : Cx) (t : T) (b : S) (tv : TV) (e : En) (S : Store) : R Fl := match TV.put t tv e with
  | some e' => dS c b e' S
  | none => .no
def lturn (c : Cx) (elt : E) (t : T) (ifs : Es) (e : En) (tv : TV) (S : Store) : R (Option W) := match TV.put t tv e with
  | some e' => (dTs c ifs e' S).bind fun b S' => if b then (dX c elt false e' S').bind fun w S'' => .ok (some w) S'' else .ok none S'
  | none => .no
/-- statements in a row -/
def seqF (r : R Fl) (f : En → Store → R Fl) (_h : Tag f := .mk) : R Fl := match r with
  | .ok (.nx e') S' => f e' S'
  | r => r
@[simp ↓] theorem seqF_nx' {e : En} {S : Store} {f : En → Store → R Fl} : seqF (.ok (.nx e) S) f = f e S := rfl
@[simp ↓] theorem seqF_rt' {w : W} {S : Store} {f : En → Store → R Fl} : seqF (.ok (.rt w) S) f = .ok (.rt w) S := rfl
@[simp] theorem seqF_nx {e : En} {S : Store} {f : En → Store → R Fl} : seqF (.ok (.nx e) S) f = f e S := rfl
@[simp] theorem seqF_rt {w : W} {S : Store} {f : En → Store → R Fl} : seqF (.ok (.rt w) S) f = .ok (.rt w) S := rfl
@[simp] theorem seqF_bk {e : En} {S : Store} {f : En → Store → R Fl} : seqF (.ok (.bk e) S) f = .ok (.bk e) S := rfl
@[simp] theorem seqF_ct {e : En} {S : Store} {f : En → Store → R Fl} : seqF (.ok (.ct e) S) f = .ok (.ct e) S := rfl
@[simp] theorem seqF_err {x : Exn} {S : Store} {f : En → Store → R Fl} : seqF (.err x S) f = .err x S := rfl
@[simp] theorem seqF_ite {p : Prop} [Decidable p] {a b : R Fl} {f : En → Store → R Fl} : seqF (if p then a else b) f = if p then seqF a f else seqF b f := by split <;> rfl
@[simp] theorem bind_ite {α β : Type} {p : Prop} [Decidable p] {a b : R α} {f : α → Store → R β} : R.bind (if p then a else b) f = if p then R.bind a f else R.bind b f := by split <;> rfl
variable {c : Cx} {e : En} {S : Store}
@[simp] theorem tst_ok {w : W} : tst true (.ok w S) = match truth S w with
  | some b => .ok (.d (.bl b)) S
  | none => .no := rfl
theorem dS_seq {a b : Ev.S} : dS c (.seq a b) e S = seqF (dS c a e S) (fun e' S' => dS c b e' S') := by
  simp only [dS, seqF] <;> (split <;> rename_i h <;> simp_all)
theorem dS_for {t : T} {it : It} {b : Ev.S} : dS c (.for_ t it b) e S = if c.calm = false then .no else (dI c it e S).bind fun p S1 => forLoop (turn c t b) p.2 p.1 e S1 := rfl
theorem dS_while {t : E} {b : Ev.S} : dS c (.while_ t b) e S = if c.calm = false then .no else whileLoop (dT c t) (dS c b) c.fuel e S := rfl
theorem dX_lc {elt : E} {tg : T} {it : It} {ifs : Es} {t : Bool} : dX c (.lc elt tg it ifs) t e S = tst t (if c.calm = false then .no else (dI c it e S).bind fun p S1 => (lcLoop (lturn c elt tg ifs e) p.2 p.1 [] S1).bind fun l S2 => newL l S2) := rfl
theorem dL_lc {elt : E} {tg : T} {it : It} {ifs : Es} : dL c (.lc elt tg it ifs) e S = if c.calm = false then .no else (dI c it e S).bind fun p S1 => lcLoop (lturn c elt tg ifs e) p.2 p.1 [] S1 := rfl
/-! the store -/
@[simp] theorem get_app0 {T : Store} : (S ++ T)[S.length]? = T[0]? := by
  rw [List.getElem?_append_right (Nat.le_refl _), Nat.sub_self]
@[simp] theorem get_app {T : Store} {i : Nat} : (S ++ T)[S.length + i]? = T[i]? := by
  rw [List.getElem?_append_right (Nat.le_add_right _ _), Nat.add_sub_cancel_left]
@[simp] theorem set_app0 {T : Store} {o : Ob} : (S ++ T).set S.length o = S ++ T.set 0 o := by
  rw [List.set_append_right _ _ (Nat.le_refl _), Nat.sub_self]
@[simp] theorem set_app {T : Store} {i : Nat} {o : Ob} : (S ++ T).set (S.length + i) o = S ++ T.set i o := by
  rw [List.set_append_right _ _ (Nat.le_add_right _ _), Nat.add_sub_cancel_left]
theorem get_left {n : Nat} {o : Ob} (h : S[n]? = some o) (T : Store) : (S ++ T)[n]? = some o := by
  rw [List.getElem?_append_left (List.getElem?_eq_some_iff.mp h).1, h]
@[simp] theorem old_same {T : Store} : old S.length (S ++ T) S = some S := by simp [old]
@[simp] theorem old_self : old S.length S S = some S := by simp [old]
theorem app_assoc {A B C : Store} : (A ++ B) ++ C = A ++ (B ++ C) := List.append_assoc A B C
@[simp] theorem line1 : 1 ≤ LINE := by decide
@[simp] theorem line2 : 2 ≤ LINE := by decide
@[simp] theorem line3 : 3 ≤ LINE := by decide
@[simp] theorem line4 : 4 ≤ LINE := by decide
@[simp] theorem line5 : 5 ≤ LINE := by decide
@[simp] theorem line6 : 6 ≤ LINE := by decide
@[simp] theorem line7 : 7 ≤ LINE := by decide
@[simp] theorem line8 : 8 ≤ LINE := by decide
@[simp] theorem line9 : 9 ≤ LINE := by decide
@[simp] theorem line0 : 0 < LINE := by decide
@[simp] theorem len_add {S : Store} {a b : Nat} : S.length + a + b = S.length + (a + b) := Nat.add_assoc _ _ _
/-! lists of data -/
@[simp] theorem toD_mapW {l : List D} : toD (l.map W.d) = some l := by induction l <;> simp_all [toD]
@[simp] theorem toD_nil : toD [] = some [] := rfl
@[simp] theorem toD_append {a b : List W} : toD (a ++ b) = (toD a).bind fun x => (toD b).map (x ++ ·) := by
  induction a with
  | nil => cases h : toD b <;> simp [h]
  | cons w a ih =>
    cases w with
    | d x => simp only [List.cons_append, toD, ih]; cases toD a <;> cases toD b <;> simp
    | r n => simp [toD]
/-! ends of calls -/
@[simp] theorem fin_rt_d {T : Store} {x : D} : fin S (.ok (.rt (.d x)) (S ++ T)) = .ok (.d x) S := by simp [fin, gcW]
@[simp] theorem fin_rt_d0 {x : D} : fin S (.ok (.rt (.d x)) S) = .ok (.d x) S := by simp [fin, gcW]
@[simp] theorem fin_nx {T : Store} {e : En} : fin S (.ok (.nx e) (S ++ T)) = .ok (.d .non) S := by simp [fin, gcW]
@[simp] theorem fin_nx0 {e : En} : fin S (.ok (.nx e) S) = .ok (.d .non) S := by simp [fin, gcW]
theorem fin_ite {p : Prop} [Decidable p] {a b : R Fl} : fin S (if p then a else b) = if p then fin S a else fin S b := by split <;> rfl
/-! loops -/
/-- a for that goes through, by an invariant over what is done -/
theorem for_inv {f : TV → En → Store → R Fl} {g : Guard} {α : Type} (tv : α → TV) (I : List α → List α → En → Store → Prop)
    (turn : ∀ done x rest e S, I done (x :: rest) e S → Guard.ok S g = true ∧ ∃ e' S', f (tv x) e S = .ok (.nx e') S' ∧ I (done ++ [x]) rest e' S')
    (hg : ∀ done e S, I done [] e S → Guard.ok S g = true) (l : List α) : ∀ (done : List α) (e : En) (S : Store), I done l e S → ∃ e' S', forLoop f g (l.map tv) e S = .ok (.nx e') S' ∧ I (done ++ l) [] e' S' := by
  induction l with
  | nil =>
    intro done e S h
    exact ⟨e, S, by simp [forLoop, hg _ _ _ h], by simpa using h⟩
  | cons x l ih =>
    intro done e S h
    obtain ⟨h1, e', S', h2, h3⟩ := turn done x l e S h
    obtain ⟨e2, S2, h4, h5⟩ := ih (done ++ [x]) e' S' h3
    exact ⟨e2, S2, by simp [forLoop, h1, h2, h4], by simpa using h5⟩
/-- a comprehension whose tests pass and whose items are told -/
theorem lc_map {f : TV → Store → R (Option W)} {α : Type} (tv : α → TV) (h : α → Option W) (g : Guard) (S : Store) (hg : Guard.ok S g = true) (l : List α) (hf : ∀ x ∈ l, f (tv x) S = .ok (h x) S) :
    ∀ acc : List W, acc.length + l.length ≤ LINE → lcLoop f g (l.map tv) acc S = .ok (acc ++ l.filterMap h) S := by
  induction l with
  | nil => intro acc _; simp [lcLoop, hg]
  | cons x l ih =>
    intro acc hl
    have hx := hf x (by simp)
    have ih := ih (fun y hy => hf y (by simp [hy]))
    simp only [List.length_cons] at hl
    cases e : h x with
    | none => simp [lcLoop, hg, hx, e, ih acc (by omega)]
    | some w => simp [lcLoop, hg, hx, e, show acc.length < LINE by omega, ih (acc ++ [w]) (by simp; omega)]
/-- a for whose turns leave the store -/
theorem for_pass {f : TV → En → Store → R Fl} {g : Guard} {α : Type} (tv : α → TV) (Q : En → Prop) (S : Store) (hg : Guard.ok S g = true) (l : List α) (turn : ∀ x ∈ l, ∀ e, Q e → ∃ e', f (tv x) e S = .ok (.nx e') S ∧ Q e') :
    ∀ e, Q e → ∃ e', forLoop f g (l.map tv) e S = .ok (.nx e') S ∧ Q e' := by
  induction l with
  | nil => intro e h; exact ⟨e, by simp [forLoop, hg], h⟩
  | cons x l ih =>
    intro e h
    obtain ⟨e1, h1, h2⟩ := turn x (by simp) e h
    obtain ⟨e2, h3, h4⟩ := ih (fun y hy => turn y (by simp [hy])) e1 h2
    exact ⟨e2, by simp [forLoop, hg, h1, h3], h4⟩
theorem in_chr {S : Store} {c : Char} {y : List Char} : inW S (.d (.str [c])) (.d (.str y)) = some (y.contains c) := rfl
theorem in_strtup {S : Store} {x : List Char} {l : List D} : inW S (.d (.str x)) (.d (.tup l)) = if D.datL l 63 then some (l.any fun y => D.eqv y (.str x)) else none := by
  simp [inW, dseq, seqOf, D.dat]
theorem in_inttup {S : Store} {x : Int} {l : List D} : inW S (.d (.int x)) (.d (.tup l)) = if D.datL l 63 then some (l.any fun y => D.eqv y (.int x)) else none := by
  simp [inW, dseq, seqOf, D.dat]
theorem in_nontup {S : Store} {l : List D} : inW S (.d .non) (.d (.tup l)) = if D.datL l 63 then some (l.any fun y => D.eqv y .non) else none := by
  simp [inW, dseq, seqOf, D.dat]
theorem in_bltup {S : Store} {x : Bool} {l : List D} : inW S (.d (.bl x)) (.d (.tup l)) = if D.datL l 63 then some (l.any fun y => D.eqv y (.bl x)) else none := by
  simp [inW, dseq, seqOf, D.dat]
theorem eqW_d {S : Store} {x y : D} : eqW S (.d x) (.d y) = if x.dat 64 && y.dat 64 then some (D.eqv x y) else none := rfl
theorem eqW_r {S : Store} {x y : Nat} : eqW S (.r x) (.r y) = match dseq S (.r x), dseq S (.r y) with
    | some xs, some ys => if D.datL xs 63 && D.datL ys 63 then some (D.eqvL xs ys) else none
    | _, _ => none := rfl
/-! tuples of things -/
def tupM {α : Type} (f : α → D) (l : List α) : D := .tup (l.map f)
section
variable {α β : Type} {f : α → D} {l : List α} {S : Store}
@[simp] theorem toD_comp : toD (l.map fun x => W.d (f x)) = some (l.map f) := by induction l <;> simp_all [toD]
@[simp] theorem toD_comp2 : toD (l.map (W.d ∘ f)) = some (l.map f) := toD_comp
theorem tupM_nil : tupM f [] = .tup [] := rfl
@[simp] theorem tupM_non : (tupM f l = D.non) = False := by simp [tupM]
@[simp high] theorem len_tupM : op1 .len (.d (tupM f l)) S = .ok (.d (.int l.length)) S := by simp [tupM, op1, seqOf]
@[simp high] theorem isi_tupM {isx : String → String → Option Bool} {t : Ty} : isiW isx (.d (tupM f l)) t S = match t with
  | .cls _ => none
  | t => some (t == .tuple) := by cases t <;> simp [tupM, isiW]
@[simp high] theorem walk_tupM : walkW (.d (tupM f l)) S = some (l.map fun x => W.d (f x), []) := by simp [tupM, walkW]
@[simp high] theorem pair_tupM : pairW (.d (tupM f l)) S = some (true, l.map (fun x => W.d (f x)), []) := by simp [tupM, pairW]
@[simp high] theorem seq_tupM : seqOf S (.d (tupM f l)) = some (l.map fun x => W.d (f x)) := by simp [tupM, seqOf]
@[simp high] theorem ext_tupM : extOf S (.d (tupM f l)) = some (l.map fun x => W.d (f x)) := by simp [tupM, extOf]
theorem idx_tupM {i : Nat} {x : α} (h : l[i]? = some x) : op2 .idx (.d (tupM f l)) (.d (.int i)) S = .ok (.d (f x)) S := by
  have hi : i < l.length := (List.getElem?_eq_some_iff.mp h).1
  have : ixN l.length i = some i := by simp [ixN, hi]
  simp [op2, tupM, seqOf, this, h]
@[simp high] theorem in_tupM {x : List Char} {l : List (List Char)} : inW S (.d (.str x)) (.d (tupM .str l)) = some (decide (x ∈ l)) := by
  have hl : D.datL (l.map .str) 63 = true := by induction l <;> simp_all [D.datL, D.dat]
  have ha : ((l.map D.str).any fun y => D.eqv y (.str x)) = decide (x ∈ l) := by
    clear hl
    induction l with
    | nil => simp
    | cons a l ih =>
      simp only [List.map_cons, List.any_cons, ih]
      by_cases h : a = x <;> simp [h, Ne.symm, D.eqv]
  have hd : dseq S (.d (tupM .str l)) = some (l.map .str) := by simp [dseq]
  have hd0 : (D.str x).dat 64 = true := rfl
  simp only [inW, tupM] at *
  simp only [hd, hd0, hl, ha, Bool.and_self, if_true]
@[simp] theorem cut_hi {i : Nat} : cut l none (some (i : Int)) = l.take i := by
  have : ¬ ((i : Int) < 0) := by omega
  simp only [cut, sIx, this, if_false, List.drop_zero, Nat.sub_zero, Int.toNat_natCast]
  exact (List.take_eq_take_min).symm
@[simp] theorem cut_lo {i : Nat} : cut l (some (i : Int)) none = l.drop i := by
  have : ¬ ((i : Int) < 0) := by omega
  simp only [cut, sIx, this, if_false, Int.toNat_natCast]
  by_cases h : i ≤ l.length
  · rw [Nat.min_eq_left h, List.take_of_length_le (by simp)]
  · rw [Nat.min_eq_right (by omega), List.drop_of_length_le (by omega), List.drop_of_length_le (by omega)]
    simp
@[simp high] theorem sl_tupM {lo hi : Option Int} : slW (.d (tupM f l)) lo hi S = .ok (.d (tupM f (cut l lo hi))) S := by
  simp [tupM, slW, cut, List.map_take, List.map_drop]
/-- a tuple or a list of texts -/
def SeqT (S : Store) (w : W) (ss : List (List Char)) : Prop := seqOf S w = some (ss.map fun x => W.d (.str x))
theorem seqT_tup {ss : List (List Char)} : SeqT S (.d (tupM .str ss)) ss := by simp [SeqT]
theorem seqT_ref {n : Nat} {ss : List (List Char)} (h : S[n]? = some (.lst (ss.map fun x => W.d (.str x)))) : SeqT S (.r n) ss := by simp [SeqT, seqOf, h]
theorem SeqT.app {w : W} {ss : List (List Char)} (h : SeqT S w ss) (T : Store) : SeqT (S ++ T) w ss := by
  cases w with
  | d x => cases x <;> exact h
  | r n =>
    unfold SeqT seqOf at *
    dsimp only at *
    cases e : S[n]? with
    | none => rw [e] at h; cases h
    | some o => rw [List.getElem?_append_left (List.getElem?_eq_some_iff.mp e).1, e]; rw [e] at h; exact h
theorem SeqT.in {w : W} {ss : List (List Char)} (h : SeqT S w ss) (x : List Char) : inW S (.d (.str x)) w = some (decide (x ∈ ss)) := by
  have e : inW S (.d (.str x)) (.d (tupM .str ss)) = some (decide (x ∈ ss)) := in_tupM
  have h1 : dseq S w = some (ss.map .str) := by simp [dseq, show seqOf S w = _ from h]
  have h2 : dseq S (.d (tupM .str ss)) = some (ss.map .str) := by simp [dseq]
  cases w with
  | d y =>
    cases y <;> simp only [SeqT, seqOf] at h <;> try contradiction
    simp only [inW, tupM] at *
    rw [h2] at e
    rw [h1]
    exact e
  | r n =>
    simp only [inW, tupM] at *
    rw [h2] at e
    rw [h1]
    exact e
theorem SeqT.no {w : W} {ss : List (List Char)} (h : SeqT S w ss) {x : List Char} (hx : x ∉ ss) : inW S (.d (.str x)) w = some false := by rw [h.in, decide_eq_false hx]
theorem SeqT.yes {w : W} {ss : List (List Char)} (h : SeqT S w ss) {x : List Char} (hx : x ∈ ss) : inW S (.d (.str x)) w = some true := by rw [h.in, decide_eq_true hx]
theorem enumW_map {h : α → W} : enumW (l.map h) = l.zipIdx.map fun p => TV.many [.d (.int (p.2 : Nat)), h p.1] := by
  simp [enumW, List.zipIdx_map, Function.comp_def]
end
/-- a for over enumerate, by an invariant over what is done -/
theorem for_enum {f : TV → En → Store → R Fl} {g : Guard} {α : Type} (h : α → W) (I : List α → En → Store → Prop) (l : List α)
    (turn : ∀ done x rest, done ++ x :: rest = l → ∀ e S, I done e S → Guard.ok S g = true ∧ ∃ e' S', f (.many [.d (.int (done.length : Nat)), h x]) e S = .ok (.nx e') S' ∧ I (done ++ [x]) e' S')
    (hg : ∀ e S, I l e S → Guard.ok S g = true) (e : En) (S : Store) (h0 : I [] e S) : ∃ e' S', forLoop f g (l.zipIdx.map fun p => TV.many [.d (.int (p.2 : Nat)), h p.1]) e S = .ok (.nx e') S' ∧ I l e' S' := by
  have key : ∀ (rest done : List α) (e : En) (S : Store), done ++ rest = l → I done e S → ∃ e' S', forLoop f g ((rest.zipIdx done.length).map fun p => TV.many [.d (.int (p.2 : Nat)), h p.1]) e S = .ok (.nx e') S' ∧ I l e' S' := by
    intro rest
    induction rest with
    | nil =>
      intro done e S hd hI
      simp only [List.append_nil] at hd
      subst hd
      exact ⟨e, S, by simp [forLoop, hg _ _ hI], hI⟩
    | cons x rest ih =>
      intro done e S hd hI
      obtain ⟨g1, e1, S1, h1, h2⟩ := turn done x rest hd e S hI
      obtain ⟨e2, S2, h3, h4⟩ := ih (done ++ [x]) e1 S1 (by simpa using hd) h2
      rw [List.length_append, List.length_singleton] at h3
      exact ⟨e2, S2, by simp [forLoop, g1, h1, h3], h4⟩
  exact key l [] e S rfl h0
/-- a for over a row, by an invariant over what is done -/
theorem for_seq {f : TV → En → Store → R Fl} {g : Guard} {α : Type} (tv : α → TV) (I : List α → En → Store → Prop) (l : List α)
    (turn : ∀ done x rest, done ++ x :: rest = l → ∀ e S, I done e S → Guard.ok S g = true ∧ ∃ e' S', f (tv x) e S = .ok (.nx e') S' ∧ I (done ++ [x]) e' S')
    (hg : ∀ e S, I l e S → Guard.ok S g = true) (e : En) (S : Store) (h0 : I [] e S) : ∃ e' S', forLoop f g (l.map tv) e S = .ok (.nx e') S' ∧ I l e' S' := by
  have key : ∀ (rest done : List α) (e : En) (S : Store), done ++ rest = l → I done e S → ∃ e' S', forLoop f g (rest.map tv) e S = .ok (.nx e') S' ∧ I l e' S' := by
    intro rest
    induction rest with
    | nil =>
      intro done e S hd hI
      simp only [List.append_nil] at hd
      subst hd
      exact ⟨e, S, by simp [forLoop, hg _ _ hI], hI⟩
    | cons x rest ih =>
      intro done e S hd hI
      obtain ⟨g1, e1, S1, h1, h2⟩ := turn done x rest hd e S hI
      obtain ⟨e2, S2, h3, h4⟩ := ih (done ++ [x]) e1 S1 (by simpa using hd) h2
      exact ⟨e2, S2, by simp [forLoop, g1, h1, h3], h4⟩
  exact key l [] e S rfl h0
/-! a call that hands back a new list of data -/
theorem fin_lst {S S' : Store} {m : Nat} {l : List W} (h1 : S'.take S.length = S) (h2 : S.length ≤ m) (h3 : S'[m]? = some (.lst l)) (h4 : (toD l).isSome = true) : fin S (.ok (.rt (.r m)) S') = .ok (.r S.length) (S ++ [.lst l]) := by
  obtain ⟨x, hx⟩ := Option.isSome_iff_exists.mp h4
  have ho : old S.length S' S = some S := by simp [old, h1]
  simp [fin, gcW, ho, Nat.not_lt.mpr h2, h3, hx]
/-- a comprehension whose turns leave things behind them -/
theorem lc_grow {f : TV → Store → R (Option W)} {α : Type} (tv : α → TV) (h : α → W) (g : Guard) (S : Store) (hg : ∀ T, Guard.ok (S ++ T) g = true) (l : List α) (hf : ∀ x ∈ l, ∀ T, ∃ T', f (tv x) (S ++ T) = .ok (some (h x)) (S ++ (T ++ T'))) :
    ∀ (acc : List W) (T : Store), acc.length + l.length ≤ LINE → ∃ T', lcLoop f g (l.map tv) acc (S ++ T) = .ok (acc ++ l.map h) (S ++ (T ++ T')) := by
  induction l with
  | nil => intro acc T _; exact ⟨[], by simp [lcLoop, hg]⟩
  | cons x l ih =>
    intro acc T hl
    obtain ⟨T1, hx⟩ := hf x (by simp) T
    simp only [List.length_cons] at hl
    obtain ⟨T2, h2⟩ := ih (fun y hy => hf y (by simp [hy])) (acc ++ [h x]) (T ++ T1) (by simp; omega)
    exact ⟨T1 ++ T2, by simp only [List.map_cons, lcLoop, hg, if_true, hx, show acc.length < LINE by omega, h2, List.append_assoc, List.singleton_append, List.cons_append, List.nil_append]⟩
theorem joinSz_le {sep : List Char} {m : Nat} : ∀ (l : List (List Char)), (∀ x ∈ l, x.length ≤ m) → joinSz sep l ≤ l.length * (m + sep.length)
  | [], _ => by simp [joinSz]
  | x :: l, h => by
    have h1 := h x (by simp)
    have h2 := joinSz_le (sep := sep) l fun y hy => h y (by simp [hy])
    simp only [joinSz, List.length_cons, Nat.succ_mul]
    omega
theorem joinT_le {sep : List Char} : ∀ (l : List (List Char)), (joinT sep l).length ≤ joinSz sep l
  | [] => by simp [joinT, joinSz]
  | [x] => by simp [joinT, joinSz]
  | x :: y :: l => by
    have := joinT_le (sep := sep) (y :: l)
    simp only [joinT, joinSz, List.length_append] at *
    omega
@[simp] theorem toStr_map {l : List (List Char)} : toStr (l.map .str) = some l := by induction l <;> simp_all [toStr]
theorem join_lst {S : Store} {n : Nat} {sep : List Char} {l : List (List Char)} (h : S[n]? = some (.lst (l.map fun x => .d (.str x)))) (hl : joinSz sep l ≤ LINE) : op2 .join (.d (.str sep)) (.r n) S = .ok (.d (.str (joinT sep l))) S := by
  simp [op2, dseq, seqOf, h, hl]
abbrev strsW (l : List (List Char)) : List W := l.map fun x => W.d (.str x)
theorem ret_strs {S : Store} {r : R Fl} {l : List (List Char)} (h : ∃ m S', r = .ok (.rt (.r m)) S' ∧ S'.take S.length = S ∧ S.length ≤ m ∧ S'[m]? = some (.lst (strsW l))) : fin S r = .ok (.r S.length) (S ++ [.lst (strsW l)]) := by
  obtain ⟨m, S', rfl, h1, h2, h3⟩ := h
  exact fin_lst h1 h2 h3 (by simp)
theorem flat_le {α β : Type} {f : α → List β} {m : Nat} : ∀ (l : List α), (∀ x ∈ l, (f x).length ≤ m) → (l.map f).flatten.length ≤ l.length * m
  | [], _ => by simp
  | x :: l, h => by
    have h1 := h x (by simp)
    have h2 := flat_le l fun y hy => h y (by simp [hy])
    simp only [List.map_cons, List.flatten_cons, List.length_append, List.length_cons, Nat.succ_mul] at *
    omega
theorem ixN_nat {n i : Nat} (h : i < n) : ixN n (i : Int) = some i := by simp [ixN, h]
theorem idx_tupD {S : Store} {l : List D} {i : Nat} {x : D} (h : l[i]? = some x) : op2 .idx (.d (.tup l)) (.d (.int i)) S = .ok (.d x) S := by
  have hi : i < l.length := (List.getElem?_eq_some_iff.mp h).1
  simp [op2, seqOf, ixN_nat hi, h]
theorem idx_lst {S : Store} {n : Nat} {l : List W} (hn : S[n]? = some (.lst l)) {i : Nat} {x : W} (h : l[i]? = some x) : op2 .idx (.r n) (.d (.int i)) S = .ok x S := by
  have hi : i < l.length := (List.getElem?_eq_some_iff.mp h).1
  simp [op2, seqOf, hn, ixN_nat hi, h]
end Ev
end

section
set_option linter.all false
set_option autoImplicit false
namespace Ev
abbrev Txt := List Char
def letters : Txt := ['a','b','c','d','e','f','g','h','i','j','k','l','m','n','o','p','q','r','s','t','u','v','w','x','y','z']
def IsName (s : Txt) : Prop := 1 ≤ s.length ∧ s.length ≤ 8 ∧ ∀ c ∈ s, c ∈ letters
variable {fuel k : Nat} {S : Store}
@[simp] theorem cx_glob {call : String → String → List W → Store → R W} {x : String} : (P.cx fuel call).glob x = P.globs.lookup x := rfl
@[simp] theorem cx_fuel {call : String → String → List W → Store → R W} : (P.cx fuel call).fuel = fuel := rfl
@[simp] theorem cx_calm {call : String → String → List W → Store → R W} : (P.cx fuel call).calm = true := rfl
@[simp] theorem cx_cur {call : String → String → List W → Store → R W} : (P.cx fuel call).cur = none := rfl
@[simp] theorem curC_none {a : E} : curC none a = none := rfl
@[simp] theorem dat_str {s : Txt} {n : Nat} : (D.str s).dat n = true := by cases n <;> rfl
@[simp] theorem dat_int {i : Int} {n : Nat} : (D.int i).dat n = true := by cases n <;> rfl
@[simp] theorem dat_non {n : Nat} : D.non.dat n = true := by cases n <;> rfl
@[simp] theorem datL_str {l : List Txt} {n : Nat} : D.datL (l.map .str) n = true := by
  induction l <;> simp_all [D.datL]
@[simp] theorem eqv_str {x y : Txt} : D.eqv (.str x) (.str y) = decide (x = y) := by by_cases h : x = y <;> simp [D.eqv, h]
@[simp] theorem eqv_int {x y : Int} : D.eqv (.int x) (.int y) = decide (x = y) := by by_cases h : x = y <;> simp [D.eqv, h]
@[simp] theorem any_str {l : List Txt} {x : Txt} : ((l.map D.str).any fun y => D.eqv y (.str x)) = decide (x ∈ l) := by
  induction l with
  | nil => simp
  | cons a l ih =>
    simp only [List.map_cons, List.any_cons, ih, eqv_str]
    by_cases h : a = x <;> simp [h, Ne.symm]
@[simp] theorem toD_map2 {l : List D} : toD (l.map W.d) = some l := toD_mapW
@[simp] theorem cx_call {call : String → String → List W → Store → R W} {x f : String} {ws : List W} : (P.cx fuel call).call x f ws S = if f = "__init__" then .no else call x f ws S := rfl
@[simp] theorem cx_defs {call : String → String → List W → Store → R W} {x f : String} : (P.cx fuel call).defs x f = ((P.fns.lookup (x, f)).isSome && f != "__init__") := rfl
end Ev
end

section
set_option linter.all false
set_option autoImplicit false
/-! EvD1: draws. -/
namespace Ev
variable {fuel k : Nat} {S : Store}
abbrev intsW (l : List Int) : List W := l.map fun x => W.d (.int x)
/-- a pool stands at p, apart from the places X -/
def PoolAt (S : Store) (p : Nat) (X : List Nat) (g s : Nat) (great small : List Int) (cur cnt : Int) : Prop :=
  S[p]? = some (.lst [.r g, .r s, .d (.int cur), .d (.int cnt)]) ∧ S[g]? = some (.lst (intsW great)) ∧ S[s]? = some (.lst (intsW small)) ∧ g ≠ p ∧ s ≠ p ∧ p ∉ X ∧ g ∉ X ∧ s ∉ X ∧ (∀ x ∈ great, 0 < x) ∧ 0 ≤ cur ∧ small.length ≤ 63
def Pool (S : Store) (p : Nat) (X : List Nat) : Prop := ∃ g s great small cur cnt, PoolAt S p X g s great small cur cnt
/-- nothing old is changed but at p -/
def Ext (S T : Store) (p : Nat) : Prop := S.length ≤ T.length ∧ ∀ i, i < S.length → i ≠ p → T[i]? = S[i]?
def Old (S : Store) (X : List Nat) : Prop := ∀ x ∈ X, x < S.length
theorem Ext.refl {p : Nat} : Ext S S p := ⟨Nat.le_refl _, fun _ _ _ => rfl⟩
theorem Ext.trans {A B C : Store} {p : Nat} (h : Ext A B p) (g : Ext B C p) : Ext A C p := ⟨Nat.le_trans h.1 g.1, fun i hi hp => by rw [g.2 i (Nat.lt_of_lt_of_le hi h.1) hp, h.2 i hi hp]⟩
theorem Ext.app {T : Store} {p : Nat} (h : Ext S T p) (U : Store) : Ext S (T ++ U) p := ⟨by simp; have := h.1; omega, fun i hi hp => by
  rw [List.getElem?_append_left (Nat.lt_of_lt_of_le hi h.1), h.2 i hi hp]⟩
theorem Ext.app0 {p : Nat} (U : Store) : Ext S (S ++ U) p := Ext.refl.app U
theorem Ext.of_app {T : Store} {p : Nat} {U : Store} (h : Ext (S ++ U) T p) : Ext S T p := ⟨by have := h.1; simp at this; omega, fun i hi hp => by
  rw [h.2 i (by simp; omega) hp, List.getElem?_append_left hi]⟩
theorem Ext.set {T : Store} {p : Nat} (h : Ext S T p) {i : Nat} (hi : S.length ≤ i) (o : Ob) : Ext S (T.set i o) p := ⟨by simpa using h.1, fun j hj hp => by
  rw [List.getElem?_set_ne (by omega), h.2 j hj hp]⟩
theorem Ext.setp {T : Store} {p : Nat} (h : Ext S T p) (o : Ob) : Ext S (T.set p o) p := ⟨by simpa using h.1, fun j hj hp => by
  rw [List.getElem?_set_ne (by omega), h.2 j hj hp]⟩
theorem Ext.get {T : Store} {p : Nat} (h : Ext S T p) {i : Nat} {o : Ob} (hi : S[i]? = some o) (hp : i ≠ p) : T[i]? = some o := by
  rw [h.2 i (List.getElem?_eq_some_iff.mp hi).1 hp, hi]
theorem Old.mono {T : Store} {X : List Nat} (h : Old S X) (hl : S.length ≤ T.length) : Old T X := fun x hx => Nat.lt_of_lt_of_le (h x hx) hl
theorem lt_of_some {n : Nat} {o : Ob} (h : S[n]? = some o) : n < S.length := (List.getElem?_eq_some_iff.mp h).1
theorem Pool.app {p : Nat} {X : List Nat} (h : Pool S p X) (U : Store) : Pool (S ++ U) p X := by
  obtain ⟨g, s, great, small, cur, cnt, h1, h2, h3, h⟩ := h
  exact ⟨g, s, great, small, cur, cnt, get_left h1 U, get_left h2 U, get_left h3 U, h⟩
/-- a new place is apart -/
theorem Pool.new {p : Nat} {X : List Nat} (h : Pool S p X) (U : Store) {r : Nat} (hr : S.length ≤ r) : Pool (S ++ U) p (r :: X) := by
  obtain ⟨g, s, great, small, cur, cnt, h1, h2, h3, h4, h5, h6, h7, h8, h9⟩ := h
  have a := lt_of_some h1
  have b := lt_of_some h2
  have c := lt_of_some h3
  exact ⟨g, s, great, small, cur, cnt, get_left h1 U, get_left h2 U, get_left h3 U, h4, h5, by simp [h6]; omega, by simp [h7]; omega, by simp [h8]; omega, h9⟩
theorem Pool.set {p : Nat} {X : List Nat} (h : Pool S p X) {x : Nat} (hx : x ∈ X) (o : Ob) : Pool (S.set x o) p X := by
  obtain ⟨g, s, great, small, cur, cnt, h1, h2, h3, h4, h5, h6, h7, h8, h9⟩ := h
  have a : x ≠ p := fun e => h6 (e ▸ hx)
  have b : x ≠ g := fun e => h7 (e ▸ hx)
  have c : x ≠ s := fun e => h8 (e ▸ hx)
  exact ⟨g, s, great, small, cur, cnt, by rw [List.getElem?_set_ne a, h1], by rw [List.getElem?_set_ne b, h2], by rw [List.getElem?_set_ne c, h3], h4, h5, h6, h7, h8, h9⟩
theorem Pool.less {p : Nat} {X Y : List Nat} (h : Pool S p X) (hy : ∀ y ∈ Y, y ∈ X) : Pool S p Y := by
  obtain ⟨g, s, great, small, cur, cnt, h1, h2, h3, h4, h5, h6, h7, h8, h9⟩ := h
  exact ⟨g, s, great, small, cur, cnt, h1, h2, h3, h4, h5, fun e => h6 (hy _ e), fun e => h7 (hy _ e), fun e => h8 (hy _ e), h9⟩
theorem Pool.lt {p : Nat} {X : List Nat} (h : Pool S p X) : p < S.length := by
  obtain ⟨g, s, great, small, cur, cnt, h1, _⟩ := h
  exact lt_of_some h1
/-- the end of a call that has drawn and hands back data -/
theorem gc_draw {S' : Store} {p : Nat} {X : List Nat} {v : D} (h : Pool S p X) (h' : Pool S' p X) (hx : Ext S S' p) : ∃ T, gcW S S' (.d v) = .ok (.d v) T ∧ Pool T p X ∧ Ext S T p := by
  unfold gcW
  cases ho : old S.length S' S with
  | none => exact ⟨S', rfl, h', hx⟩
  | some T =>
    refine ⟨T, rfl, ?_⟩
    unfold old at ho
    split at ho
    · rename_i hc
      cases ho
      rcases hc with hc | hc
      · rw [hc]; exact ⟨h, Ext.refl⟩
      · obtain ⟨g, s, great, small, cur, cnt, h1, h2, h3, h4⟩ := h'
        have hp := h.lt
        have hp' : (S'.take S.length)[p]? = some (.lst [.r g, .r s, .d (.int cur), .d (.int cnt)]) := by rw [List.getElem?_take_of_lt hp, h1]
        have hm := List.all_eq_true.mp hc _ (List.mem_of_getElem? hp')
        simp only [Ob.cl, List.all_cons, List.all_nil, W.lt, Bool.and_true, Bool.and_eq_true, decide_eq_true_eq] at hm
        refine ⟨⟨g, s, great, small, cur, cnt, hp', by rw [List.getElem?_take_of_lt hm.1, h2], by rw [List.getElem?_take_of_lt hm.2, h3], h4⟩, ?_, fun i hi hip => ?_⟩
        · rw [List.length_take]; have := hx.1; omega
        · rw [List.getElem?_take_of_lt hi, hx.2 i hi hip]
    · cases ho
/-- a call has drawn: its data -/
def Drew (S : Store) (p : Nat) (X : List Nat) (r : R W) (Q : D → Prop) : Prop := ∃ v T, r = .ok (.d v) T ∧ Pool T p X ∧ Ext S T p ∧ Q v
theorem drew_of {S' : Store} {p : Nat} {X : List Nat} {v : D} {Q : D → Prop} (h : Pool S p X) (h' : Pool S' p X) (hx : Ext S S' p) (hq : Q v) : Drew S p X (fin S (.ok (.rt (.d v)) S')) Q := by
  obtain ⟨T, h1, h2, h3⟩ := gc_draw (v := v) h h' hx
  exact ⟨v, T, h1, h2, h3, hq⟩
end Ev
end

section
set_option linter.all false
set_option autoImplicit false
/-! EvD2: the law's draw. -/
namespace Ev
variable {fuel k : Nat} {S : Store}
def NatBelow (m : Nat) (v : D) : Prop := ∃ n : Nat, v = .int n ∧ n < m
theorem natBelow_mod {m : Nat} (i : Int) (h : 0 < m) : NatBelow m (.int (i % m)) := ⟨(i % m).toNat, by rw [Int.toNat_of_nonneg (Int.emod_nonneg _ (by omega))], by have := Int.emod_lt_of_pos i (show (0 : Int) < m by omega); have := Int.emod_nonneg i (show (m : Int) ≠ 0 by omega); omega⟩
theorem draw_ok {p m : Nat} {X : List Nat} (h : Pool S p X) (hX : Old S X) (h1 : 0 < m) (h2 : m ≤ 10 ^ 41) : Drew S p X (run P fuel (k + 1) "" "_law_draw" [.r p, .d (.int m)] S) (NatBelow m) := by
  have h0 := h
  obtain ⟨g, s, great, small, cur, cnt, hp, hg, hs, g1, g2, g3, g4, g5, g6, g7, g8⟩ := h
  have lp := lt_of_some hp
  have lg := lt_of_some hg
  have ls := lt_of_some hs
  have m1 : (0 : Int) < m := by omega
  have m2 : (m : Int) < 2 ^ 9000 := Int.lt_of_le_of_lt (Int.ofNat_le.mpr h2) (by decide +kernel)
  rw [run__law_draw]
  have k1 : (1000003 : Int) < 2 ^ 9000 := by decide +kernel
  have k2 : (2147483647 : Int) < 2 ^ 9000 := by decide +kernel
  have k3 : (2147483399 : Int) < 2 ^ 9000 := by decide +kernel
  have k4 : (16 : Int) < 2 ^ 9000 := by decide +kernel
  have k5 : (1013 : Int) < 2 ^ 9000 := by decide +kernel
  have k6 : (2011 : Int) < 2 ^ 9000 := by decide +kernel
  have hpp : ∀ o : Ob, (S.set p o)[p]? = some o := fun o => by simp [lp]
  have hpg : ∀ o : Ob, (S.set p o)[g]? = some (.lst (intsW great)) := fun o => by rw [List.getElem?_set_ne (Ne.symm g1), hg]
  have hps : ∀ o : Ob, (S.set p o)[s]? = some (.lst (intsW small)) := fun o => by rw [List.getElem?_set_ne (Ne.symm g2), hs]
  have hqp : ∀ (o : Ob) U, (S.set p o ++ U)[p]? = some o := fun o U => get_left (hpp o) U
  have hpl : ∀ (o : Ob) U, (S.set p o ++ U)[S.length]? = U[0]? := fun o U => by
    have := get_app0 (S := S.set p o) (T := U)
    rwa [List.length_set] at this
  have hpq : ∀ (o o' : Ob) U, ((S.set p o ++ U).set p o')[p]? = some o' := fun o o' U => List.getElem?_set_self (by simp; omega)
  have hcut : ∀ l : List W, cut l (some 1) none = l.drop 1 := fun l => cut_lo (i := 1)
  have ex1 : ∀ o : Ob, Ext S (S.set p o) p := fun o => Ext.refl.setp o
  by_cases hc : cur = 0
  · subst hc
    cases great with
    | nil =>
      have hS : ∃ i : Int, dS (P.cx fuel (run P fuel k)) f__law_draw.body [some (.r p), some (.d (.int m)), none, none, none, none] S = .ok (.rt (.d (.int (i % m)))) (S.set p (.lst [.r g, .r s, .d (.int 0), .d (.int (cnt + 1))])) := by
        cases small with
        | nil => exact ⟨_, by (simp -implicitDefEqProofs -dsimp [dS_seq, dS_for, dS_while, dX_lc, dL_lc, dS.eq_1, dS.eq_3, dS.eq_4, dS.eq_5, dS.eq_6, dS.eq_7, dS.eq_8, dS.eq_9, dS.eq_12, dS.eq_13, dS.eq_14, dS.eq_15, dS.eq_16, dX.eq_1, dX.eq_2, dX.eq_3, dX.eq_4, dX.eq_5, dX.eq_6, dX.eq_7, dX.eq_8, dX.eq_9, dX.eq_10, dX.eq_11, dX.eq_12, dX.eq_13, dX.eq_14, dX.eq_15, dX.eq_16, dX.eq_17, dX.eq_18, dX.eq_20, dX.eq_21, dX.eq_22, dX.eq_23, dX.eq_24, dX.eq_25, dX.eq_26, dX.eq_27, dX.eq_28, dX.eq_29, dX.eq_30, dX.eq_31, dL.eq_1, dEs.eq_1, dEs.eq_2, dEs.eq_3, dTs.eq_1, dTs.eq_2, dTs.eq_3, dFs.eq_1, dFs.eq_2, dFs.eq_3, dI.eq_1, dI.eq_2, dI.eq_3, dI.eq_4, dI.eq_5, dI.eq_6, dT.eq_def, op1.eq_def, op2.eq_def, cmpI.eq_def, isCall.eq_def, isCall2.eq_def, recv.eq_def, in_chr, in_strtup, in_inttup, in_nontup, in_bltup, eqW_d, eqW_r, truth.eq_def, isiW.eq_def, walkW.eq_def, pairW.eq_def, isStr.eq_def, isLst.eq_def, recvM.eq_def, List.lookup.eq_1, List.lookup.eq_2, seqOf.eq_def, extOf.eq_def, dseq.eq_def, slW.eq_def, part.eq_def, isNone.eq_def, fmt.eq_def, augW.eq_def, newL.eq_def, blR.eq_def, Guard.ok.eq_1, Guard.ok.eq_2, Ev.R.opt.eq_def, attW.eq_def, Function.comp_def, enumW_map, toD.eq_1, toD.eq_2, toD.eq_3, Ev.D.datL.eq_1, Ev.D.datL.eq_2, Ev.D.dat.eq_1, Ev.D.dat.eq_2, Ev.D.dat.eq_3, Ev.D.dat.eq_4, Ev.D.dat.eq_5, Ev.D.dat.eq_6, Ev.D.dat.eq_7, Ev.D.dat.eq_8, TV.put.eq_1, TV.put.eq_2, TV.put.eq_3, Ev.T.put.eq_1, Ev.T.put.eq_2, Ev.T.put.eq_3, Ev.T.putL.eq_1, Ev.T.putL.eq_2, Ev.T.putL.eq_3, Ev.T.ix.eq_1, Ev.T.ix.eq_2, Ev.T.ixL.eq_1, Ev.T.ixL.eq_2, forget.eq_1, forget.eq_2, ixN.eq_def, f__law_draw.eq_1, hp, hg, hs, hpp, hpg, hps, m1, m2, k1, k2, k3, k4, k5, k6]; (repeat rw [if_pos (by first | omega | (unfold LINE; omega) | (unfold LINE at *; omega))]); all_goals (first | rfl | exact ⟨rfl, rfl⟩ | exact ⟨rfl, rfl, rfl⟩ | exact ⟨rfl, rfl, rfl, rfl⟩ | (simp; done) | (unfold LINE; omega) | (unfold LINE at *; omega) | fail))⟩
        | cons y r =>
          have L : ((y :: r).length : Int) ≤ 63 := by omega
          have n1 : (0 : Int) < (y :: r).length := by rw [List.length_cons]; omega
          have n2 : ((y :: r).length : Int) < 2 ^ 9000 := Int.lt_of_le_of_lt L (by decide +kernel)
          obtain ⟨z, hz⟩ : ∃ z : Int, ∀ o, op2 .idx (.r s) (.d (.int ((cnt + 1) % ((y :: r).length : Int)))) (S.set p o) = .ok (.d (.int z)) (S.set p o) := by
            have a1 := Int.emod_nonneg (cnt + 1) (show ((y :: r).length : Int) ≠ 0 by omega)
            have a2 := Int.emod_lt_of_pos (cnt + 1) n1
            have a3 : ((cnt + 1) % ((y :: r).length : Int)).toNat < (y :: r).length := by omega
            refine ⟨(y :: r)[((cnt + 1) % ((y :: r).length : Int)).toNat], fun o => ?_⟩
            have := idx_lst (S := S.set p o) (hps o) (i := ((cnt + 1) % ((y :: r).length : Int)).toNat) (x := .d (.int ((y :: r)[((cnt + 1) % ((y :: r).length : Int)).toNat]))) (by simp only [intsW]; rw [List.getElem?_map, List.getElem?_eq_getElem a3]; rfl)
            rwa [Int.toNat_of_nonneg a1] at this
          simp only [List.length_cons] at hz n1 n2
          push_cast at hz n1 n2
          exact ⟨_, by (simp -implicitDefEqProofs -dsimp [dS_seq, dS_for, dS_while, dX_lc, dL_lc, dS.eq_1, dS.eq_3, dS.eq_4, dS.eq_5, dS.eq_6, dS.eq_7, dS.eq_8, dS.eq_9, dS.eq_12, dS.eq_13, dS.eq_14, dS.eq_15, dS.eq_16, dX.eq_1, dX.eq_2, dX.eq_3, dX.eq_4, dX.eq_5, dX.eq_6, dX.eq_7, dX.eq_8, dX.eq_9, dX.eq_10, dX.eq_11, dX.eq_12, dX.eq_13, dX.eq_14, dX.eq_15, dX.eq_16, dX.eq_17, dX.eq_18, dX.eq_20, dX.eq_21, dX.eq_22, dX.eq_23, dX.eq_24, dX.eq_25, dX.eq_26, dX.eq_27, dX.eq_28, dX.eq_29, dX.eq_30, dX.eq_31, dL.eq_1, dEs.eq_1, dEs.eq_2, dEs.eq_3, dTs.eq_1, dTs.eq_2, dTs.eq_3, dFs.eq_1, dFs.eq_2, dFs.eq_3, dI.eq_1, dI.eq_2, dI.eq_3, dI.eq_4, dI.eq_5, dI.eq_6, dT.eq_def, op1.eq_def, op2.eq_def, cmpI.eq_def, isCall.eq_def, isCall2.eq_def, recv.eq_def, in_chr, in_strtup, in_inttup, in_nontup, in_bltup, eqW_d, eqW_r, truth.eq_def, isiW.eq_def, walkW.eq_def, pairW.eq_def, isStr.eq_def, isLst.eq_def, recvM.eq_def, List.lookup.eq_1, List.lookup.eq_2, seqOf.eq_def, extOf.eq_def, dseq.eq_def, slW.eq_def, part.eq_def, isNone.eq_def, fmt.eq_def, augW.eq_def, newL.eq_def, blR.eq_def, Guard.ok.eq_1, Guard.ok.eq_2, Ev.R.opt.eq_def, attW.eq_def, Function.comp_def, enumW_map, toD.eq_1, toD.eq_2, toD.eq_3, Ev.D.datL.eq_1, Ev.D.datL.eq_2, Ev.D.dat.eq_1, Ev.D.dat.eq_2, Ev.D.dat.eq_3, Ev.D.dat.eq_4, Ev.D.dat.eq_5, Ev.D.dat.eq_6, Ev.D.dat.eq_7, Ev.D.dat.eq_8, TV.put.eq_1, TV.put.eq_2, TV.put.eq_3, Ev.T.put.eq_1, Ev.T.put.eq_2, Ev.T.put.eq_3, Ev.T.putL.eq_1, Ev.T.putL.eq_2, Ev.T.putL.eq_3, Ev.T.ix.eq_1, Ev.T.ix.eq_2, Ev.T.ixL.eq_1, Ev.T.ixL.eq_2, forget.eq_1, forget.eq_2, ixN.eq_def, f__law_draw.eq_1, hp, hg, hs, hpp, hpg, hps, m1, m2, n1, n2, ↓hz, k1, k2, k3, k4, k5, k6]; (repeat rw [if_pos (by first | omega | (unfold LINE; omega) | (unfold LINE at *; omega))]); all_goals (first | rfl | exact ⟨rfl, rfl⟩ | exact ⟨rfl, rfl, rfl⟩ | exact ⟨rfl, rfl, rfl, rfl⟩ | (simp; done) | (unfold LINE; omega) | (unfold LINE at *; omega) | fail))⟩
      obtain ⟨i, hS⟩ := hS
      rw [hS]
      exact drew_of h0 ⟨g, s, [], small, 0, cnt + 1, hpp _, hpg _, hps _, g1, g2, g3, g4, g5, g6, g7, g8⟩ (ex1 _) (natBelow_mod i h1)
    | cons x rest =>
      have hx : 0 < x := g6 x (by simp)
      have hS : dS (P.cx fuel (run P fuel k)) f__law_draw.body [some (.r p), some (.d (.int m)), none, none, none, none] S = .ok (.rt (.d (.int (x % m)))) ((S.set p (.lst [.r g, .r s, .d (.int x), .d (.int cnt)]) ++ [Ob.lst (intsW rest)]).set p (.lst [.r S.length, .r s, .d (.int (x / m)), .d (.int cnt)])) := by
        (simp -implicitDefEqProofs -dsimp [dS_seq, dS_for, dS_while, dX_lc, dL_lc, dS.eq_1, dS.eq_3, dS.eq_4, dS.eq_5, dS.eq_6, dS.eq_7, dS.eq_8, dS.eq_9, dS.eq_12, dS.eq_13, dS.eq_14, dS.eq_15, dS.eq_16, dX.eq_1, dX.eq_2, dX.eq_3, dX.eq_4, dX.eq_5, dX.eq_6, dX.eq_7, dX.eq_8, dX.eq_9, dX.eq_10, dX.eq_11, dX.eq_12, dX.eq_13, dX.eq_14, dX.eq_15, dX.eq_16, dX.eq_17, dX.eq_18, dX.eq_20, dX.eq_21, dX.eq_22, dX.eq_23, dX.eq_24, dX.eq_25, dX.eq_26, dX.eq_27, dX.eq_28, dX.eq_29, dX.eq_30, dX.eq_31, dL.eq_1, dEs.eq_1, dEs.eq_2, dEs.eq_3, dTs.eq_1, dTs.eq_2, dTs.eq_3, dFs.eq_1, dFs.eq_2, dFs.eq_3, dI.eq_1, dI.eq_2, dI.eq_3, dI.eq_4, dI.eq_5, dI.eq_6, dT.eq_def, op1.eq_def, op2.eq_def, cmpI.eq_def, isCall.eq_def, isCall2.eq_def, recv.eq_def, in_chr, in_strtup, in_inttup, in_nontup, in_bltup, eqW_d, eqW_r, truth.eq_def, isiW.eq_def, walkW.eq_def, pairW.eq_def, isStr.eq_def, isLst.eq_def, recvM.eq_def, List.lookup.eq_1, List.lookup.eq_2, seqOf.eq_def, extOf.eq_def, dseq.eq_def, slW.eq_def, part.eq_def, isNone.eq_def, fmt.eq_def, augW.eq_def, newL.eq_def, blR.eq_def, Guard.ok.eq_1, Guard.ok.eq_2, Ev.R.opt.eq_def, attW.eq_def, Function.comp_def, enumW_map, toD.eq_1, toD.eq_2, toD.eq_3, Ev.D.datL.eq_1, Ev.D.datL.eq_2, Ev.D.dat.eq_1, Ev.D.dat.eq_2, Ev.D.dat.eq_3, Ev.D.dat.eq_4, Ev.D.dat.eq_5, Ev.D.dat.eq_6, Ev.D.dat.eq_7, Ev.D.dat.eq_8, TV.put.eq_1, TV.put.eq_2, TV.put.eq_3, Ev.T.put.eq_1, Ev.T.put.eq_2, Ev.T.put.eq_3, Ev.T.putL.eq_1, Ev.T.putL.eq_2, Ev.T.putL.eq_3, Ev.T.ix.eq_1, Ev.T.ix.eq_2, Ev.T.ixL.eq_1, Ev.T.ixL.eq_2, forget.eq_1, forget.eq_2, ixN.eq_def, f__law_draw.eq_1, hp, hg, hs, hpp, hpg, hps, hqp, hpl, hpq, hcut, hx, m1, m2]; (repeat rw [if_pos (by first | omega | (unfold LINE; omega) | (unfold LINE at *; omega))]); all_goals (first | rfl | exact ⟨rfl, rfl⟩ | exact ⟨rfl, rfl, rfl⟩ | exact ⟨rfl, rfl, rfl, rfl⟩ | (simp; done) | (unfold LINE; omega) | (unfold LINE at *; omega) | fail))
      rw [hS]
      have q1 : p ≠ S.length := by omega
      refine drew_of h0 ⟨S.length, s, rest, small, x / m, cnt, hpq _ _ _, ?_, ?_, Ne.symm q1, g2, g3, fun e => absurd (hX _ e) (by omega), g5, fun y hy => g6 y (by simp [hy]), Int.ediv_nonneg (by omega) (by omega), g8⟩ (((ex1 _).app _).setp _) (natBelow_mod x h1)
      · rw [List.getElem?_set_ne q1, hpl]; rfl
      · rw [List.getElem?_set_ne (Ne.symm g2), get_left (hps _)]
  · have hc2 : 0 < cur := by omega
    have hS : dS (P.cx fuel (run P fuel k)) f__law_draw.body [some (.r p), some (.d (.int m)), none, none, none, none] S = .ok (.rt (.d (.int (cur % m)))) (S.set p (.lst [.r g, .r s, .d (.int (cur / m)), .d (.int cnt)])) := by
      (simp -implicitDefEqProofs -dsimp [dS_seq, dS_for, dS_while, dX_lc, dL_lc, dS.eq_1, dS.eq_3, dS.eq_4, dS.eq_5, dS.eq_6, dS.eq_7, dS.eq_8, dS.eq_9, dS.eq_12, dS.eq_13, dS.eq_14, dS.eq_15, dS.eq_16, dX.eq_1, dX.eq_2, dX.eq_3, dX.eq_4, dX.eq_5, dX.eq_6, dX.eq_7, dX.eq_8, dX.eq_9, dX.eq_10, dX.eq_11, dX.eq_12, dX.eq_13, dX.eq_14, dX.eq_15, dX.eq_16, dX.eq_17, dX.eq_18, dX.eq_20, dX.eq_21, dX.eq_22, dX.eq_23, dX.eq_24, dX.eq_25, dX.eq_26, dX.eq_27, dX.eq_28, dX.eq_29, dX.eq_30, dX.eq_31, dL.eq_1, dEs.eq_1, dEs.eq_2, dEs.eq_3, dTs.eq_1, dTs.eq_2, dTs.eq_3, dFs.eq_1, dFs.eq_2, dFs.eq_3, dI.eq_1, dI.eq_2, dI.eq_3, dI.eq_4, dI.eq_5, dI.eq_6, dT.eq_def, op1.eq_def, op2.eq_def, cmpI.eq_def, isCall.eq_def, isCall2.eq_def, recv.eq_def, in_chr, in_strtup, in_inttup, in_nontup, in_bltup, eqW_d, eqW_r, truth.eq_def, isiW.eq_def, walkW.eq_def, pairW.eq_def, isStr.eq_def, isLst.eq_def, recvM.eq_def, List.lookup.eq_1, List.lookup.eq_2, seqOf.eq_def, extOf.eq_def, dseq.eq_def, slW.eq_def, part.eq_def, isNone.eq_def, fmt.eq_def, augW.eq_def, newL.eq_def, blR.eq_def, Guard.ok.eq_1, Guard.ok.eq_2, Ev.R.opt.eq_def, attW.eq_def, Function.comp_def, enumW_map, toD.eq_1, toD.eq_2, toD.eq_3, Ev.D.datL.eq_1, Ev.D.datL.eq_2, Ev.D.dat.eq_1, Ev.D.dat.eq_2, Ev.D.dat.eq_3, Ev.D.dat.eq_4, Ev.D.dat.eq_5, Ev.D.dat.eq_6, Ev.D.dat.eq_7, Ev.D.dat.eq_8, TV.put.eq_1, TV.put.eq_2, TV.put.eq_3, Ev.T.put.eq_1, Ev.T.put.eq_2, Ev.T.put.eq_3, Ev.T.putL.eq_1, Ev.T.putL.eq_2, Ev.T.putL.eq_3, Ev.T.ix.eq_1, Ev.T.ix.eq_2, Ev.T.ixL.eq_1, Ev.T.ixL.eq_2, forget.eq_1, forget.eq_2, ixN.eq_def, f__law_draw.eq_1, hp, hg, hs, hpp, hpg, hps, hqp, hpl, hpq, hcut, hc, hc2, m1, m2]; (repeat rw [if_pos (by first | omega | (unfold LINE; omega) | (unfold LINE at *; omega))]); all_goals (first | rfl | exact ⟨rfl, rfl⟩ | exact ⟨rfl, rfl, rfl⟩ | exact ⟨rfl, rfl, rfl, rfl⟩ | (simp; done) | (unfold LINE; omega) | (unfold LINE at *; omega) | fail))
    rw [hS]
    exact drew_of h0 ⟨g, s, great, small, cur / m, cnt, hpp _, hpg _, hps _, g1, g2, g3, g4, g5, g6, Int.ediv_nonneg (by omega) (by omega), g8⟩ (ex1 _) (natBelow_mod cur h1)

theorem draw_lit {p : Nat} {X : List Nat} (h : Pool S p X) (hX : Old S X) (m : Nat) {z : Int} (hz : z = m) (h1 : 0 < m) (h2 : m ≤ 10 ^ 41) : Drew S p X (run P fuel (k + 1) "" "_law_draw" [.r p, .d (.int z)] S) (NatBelow m) := by
  subst hz
  exact draw_ok h hX h1 h2
end Ev
end

section
set_option linter.all false
set_option autoImplicit false
/-! EvD3: drawing items and names. -/
namespace Ev
variable {fuel k : Nat} {S : Store}
/-- a tuple or a list of data, apart from the pool -/
def Row (S : Store) (p : Nat) (it : W) (ds : List D) : Prop := it = .d (.tup ds) ∨ ∃ n, it = .r n ∧ n ≠ p ∧ S[n]? = some (.lst (ds.map W.d))
theorem Row.ext {T : Store} {p : Nat} {it : W} {ds : List D} (h : Row S p it ds) (hx : Ext S T p) : Row T p it ds := by
  rcases h with rfl | ⟨n, rfl, hn, h⟩
  · exact .inl rfl
  · exact .inr ⟨n, rfl, hn, hx.get h hn⟩
theorem Row.len {p : Nat} {it : W} {ds : List D} (h : Row S p it ds) : op1 .len it S = .ok (.d (.int ds.length)) S := by
  rcases h with rfl | ⟨n, rfl, hn, h⟩
  · simp [op1, seqOf]
  · simp [op1, seqOf, h]
theorem Row.idx {p : Nat} {it : W} {ds : List D} (h : Row S p it ds) {i : Nat} {d : D} (hd : ds[i]? = some d) : op2 .idx it (.d (.int i)) S = .ok (.d d) S := by
  rcases h with rfl | ⟨n, rfl, hn, h⟩
  · exact idx_tupD hd
  · exact idx_lst h (by simp [hd])
theorem row_tupM {α : Type} {f : α → D} {l : List α} {p : Nat} : Row S p (.d (tupM f l)) (l.map f) := .inl rfl
theorem pick_ok {p : Nat} {X : List Nat} {it : W} {ds : List D} (h : Pool S p X) (hX : Old S X) (hr : Row S p it ds) (h1 : ds ≠ []) (h2 : ds.length ≤ 10 ^ 41) : Drew S p X (run P fuel (k + 2) "" "_law_pick" [.r p, it] S) (· ∈ ds) := by
  have h3 : 0 < ds.length := List.length_pos_iff.mpr h1
  obtain ⟨v, T, e1, p1, x1, n, rfl, hn⟩ := draw_ok (fuel := fuel) (k := k) h hX h3 h2
  have hl := hr.len
  have hi := (hr.ext x1).idx (List.getElem?_eq_getElem hn)
  rw [run__law_pick]
  have hS : dS (P.cx fuel (run P fuel (k + 1))) f__law_pick.body [some (.r p), some it] S = .ok (.rt (.d (ds[n]'hn))) T := by
    (simp -implicitDefEqProofs -dsimp [dS_seq, dS_for, dS_while, dX_lc, dL_lc, dS.eq_1, dS.eq_3, dS.eq_4, dS.eq_5, dS.eq_6, dS.eq_7, dS.eq_8, dS.eq_9, dS.eq_12, dS.eq_13, dS.eq_14, dS.eq_15, dS.eq_16, dX.eq_1, dX.eq_2, dX.eq_3, dX.eq_4, dX.eq_5, dX.eq_6, dX.eq_7, dX.eq_8, dX.eq_9, dX.eq_10, dX.eq_11, dX.eq_12, dX.eq_13, dX.eq_14, dX.eq_15, dX.eq_16, dX.eq_17, dX.eq_18, dX.eq_20, dX.eq_21, dX.eq_22, dX.eq_23, dX.eq_24, dX.eq_25, dX.eq_26, dX.eq_27, dX.eq_28, dX.eq_29, dX.eq_30, dX.eq_31, dL.eq_1, dEs.eq_1, dEs.eq_2, dEs.eq_3, dTs.eq_1, dTs.eq_2, dTs.eq_3, dFs.eq_1, dFs.eq_2, dFs.eq_3, dI.eq_1, dI.eq_2, dI.eq_3, dI.eq_4, dI.eq_5, dI.eq_6, dT.eq_def, op1.eq_def, op2.eq_def, cmpI.eq_def, isCall.eq_def, isCall2.eq_def, recv.eq_def, in_chr, in_strtup, in_inttup, in_nontup, in_bltup, eqW_d, eqW_r, truth.eq_def, isiW.eq_def, walkW.eq_def, pairW.eq_def, isStr.eq_def, isLst.eq_def, recvM.eq_def, List.lookup.eq_1, List.lookup.eq_2, seqOf.eq_def, extOf.eq_def, dseq.eq_def, slW.eq_def, part.eq_def, isNone.eq_def, fmt.eq_def, augW.eq_def, newL.eq_def, blR.eq_def, Guard.ok.eq_1, Guard.ok.eq_2, Ev.R.opt.eq_def, attW.eq_def, Function.comp_def, enumW_map, toD.eq_1, toD.eq_2, toD.eq_3, Ev.D.datL.eq_1, Ev.D.datL.eq_2, Ev.D.dat.eq_1, Ev.D.dat.eq_2, Ev.D.dat.eq_3, Ev.D.dat.eq_4, Ev.D.dat.eq_5, Ev.D.dat.eq_6, Ev.D.dat.eq_7, Ev.D.dat.eq_8, TV.put.eq_1, TV.put.eq_2, TV.put.eq_3, Ev.T.put.eq_1, Ev.T.put.eq_2, Ev.T.put.eq_3, Ev.T.putL.eq_1, Ev.T.putL.eq_2, Ev.T.putL.eq_3, Ev.T.ix.eq_1, Ev.T.ix.eq_2, Ev.T.ixL.eq_1, Ev.T.ixL.eq_2, forget.eq_1, forget.eq_2, ixN.eq_def, f__law_pick.eq_1, ↓hl, lk__law_draw, e1, ↓hi]; (repeat rw [if_pos (by first | omega | (unfold LINE; omega) | (unfold LINE at *; omega))]); all_goals (first | rfl | exact ⟨rfl, rfl⟩ | exact ⟨rfl, rfl, rfl⟩ | exact ⟨rfl, rfl, rfl, rfl⟩ | (simp; done) | (unfold LINE; omega) | (unfold LINE at *; omega) | fail))
  rw [hS]
  exact drew_of h p1 x1 (List.getElem_mem hn)
def zz : Txt := ['z', 'z', 'z', 'z', 'z', 'z', 'z']
def TakenOk (tk : List Txt) : Prop := tk.Nodup ∧ (∀ x ∈ tk, IsName x) ∧ ∀ (i : Nat) (x : Txt), tk[i]? = some x → x.length = 8 → x.head? = some 'z' → ∃ c, letters[i]? = some c ∧ x = zz ++ [c]
theorem takenOk_nil : TakenOk [] := ⟨List.nodup_nil, by simp, by simp⟩
/-- a word in the making -/
def Making (x : Txt) (n : Nat) (q : Char → Prop) : Prop := x.length = n ∧ (∀ c ∈ x, c ∈ letters) ∧ ∃ c, x.head? = some c ∧ q c
theorem letters_len : letters.length = 26 := rfl
theorem str_idx {s : List Char} {i : Nat} {c : Char} (hl : s.length ≤ LINE) (h : s[i]? = some c) : op2 .idx (.d (.str s)) (.d (.int i)) S = .ok (.d (.str [c])) S := by
  have hi : i < s.length := (List.getElem?_eq_some_iff.mp h).1
  simp [op2, hl, ixN_nat hi, h]
theorem name_loop {p : Nat} {X : List Nat} (a b c : Option W) (q : Char → Prop) : ∀ (l : List Nat) (w : Txt) (n : Nat) (S : Store) (d : Option W), Pool S p X → Old S X → Making w n q → n + l.length ≤ 1000 →
    ∃ w' d' T, forLoop (turn (P.cx fuel (run P fuel (k + 1))) (.n 5) f__law_name_b1) [] (l.map fun i : Nat => TV.one (.d (.int i))) [some (.r p), a, some (.d (.str letters)), c, some (.d (.str w)), d] S = .ok (.nx [some (.r p), a, some (.d (.str letters)), c, some (.d (.str w')), d']) T ∧ Pool T p X ∧ Ext S T p ∧ Making w' (n + l.length) q
  | [], w, n, S, d, h, hX, hm, hl => ⟨w, d, S, by simp [forLoop, Guard.ok], h, Ext.refl, hm⟩
  | i :: r, w, n, S, d, h, hX, hm, hl => by
    obtain ⟨v, T, e1, p1, x1, j, rfl, hj⟩ := draw_lit (fuel := fuel) (k := k) h hX 26 (z := 26) rfl (by omega) (by omega)
    have hj' : j < letters.length := hj
    have hix := fun S => str_idx (S := S) (show letters.length ≤ LINE by decide) (List.getElem?_eq_getElem hj')
    simp only [List.length_cons] at hl
    obtain ⟨m1, m2, c0, m3, m4⟩ := hm
    have L : w.length + 1 ≤ LINE := by unfold LINE; omega
    obtain ⟨w', d', T', e2, p2, x2, hm'⟩ := name_loop a b c q r (w ++ [letters[j]]) (n + 1) T (some (.d (.int i))) p1 (hX.mono x1.1) ⟨by simp [m1], by simp only [List.mem_append, List.mem_singleton]; rintro y (hy | rfl); exact m2 _ hy; exact List.getElem_mem hj', c0, by simp [List.head?_append, m3], m4⟩ (by omega)
    refine ⟨w', d', T', ?_, p2, x1.trans x2, by rw [List.length_cons, show n + (r.length + 1) = n + 1 + r.length by omega]; exact hm'⟩
    have ht : turn (P.cx fuel (run P fuel (k + 1))) (.n 5) f__law_name_b1 (TV.one (.d (.int i))) [some (.r p), a, some (.d (.str letters)), c, some (.d (.str w)), d] S = .ok (.nx [some (.r p), a, some (.d (.str letters)), c, some (.d (.str (w ++ [letters[j]]))), some (.d (.int i))]) T := by
      (simp -implicitDefEqProofs -dsimp [dS_seq, dS_for, dS_while, dX_lc, dL_lc, dS.eq_1, dS.eq_3, dS.eq_4, dS.eq_5, dS.eq_6, dS.eq_7, dS.eq_8, dS.eq_9, dS.eq_12, dS.eq_13, dS.eq_14, dS.eq_15, dS.eq_16, dX.eq_1, dX.eq_2, dX.eq_3, dX.eq_4, dX.eq_5, dX.eq_6, dX.eq_7, dX.eq_8, dX.eq_9, dX.eq_10, dX.eq_11, dX.eq_12, dX.eq_13, dX.eq_14, dX.eq_15, dX.eq_16, dX.eq_17, dX.eq_18, dX.eq_20, dX.eq_21, dX.eq_22, dX.eq_23, dX.eq_24, dX.eq_25, dX.eq_26, dX.eq_27, dX.eq_28, dX.eq_29, dX.eq_30, dX.eq_31, dL.eq_1, dEs.eq_1, dEs.eq_2, dEs.eq_3, dTs.eq_1, dTs.eq_2, dTs.eq_3, dFs.eq_1, dFs.eq_2, dFs.eq_3, dI.eq_1, dI.eq_2, dI.eq_3, dI.eq_4, dI.eq_5, dI.eq_6, dT.eq_def, op1.eq_def, op2.eq_def, cmpI.eq_def, isCall.eq_def, isCall2.eq_def, recv.eq_def, in_chr, in_strtup, in_inttup, in_nontup, in_bltup, eqW_d, eqW_r, truth.eq_def, isiW.eq_def, walkW.eq_def, pairW.eq_def, isStr.eq_def, isLst.eq_def, recvM.eq_def, List.lookup.eq_1, List.lookup.eq_2, seqOf.eq_def, extOf.eq_def, dseq.eq_def, slW.eq_def, part.eq_def, isNone.eq_def, fmt.eq_def, augW.eq_def, newL.eq_def, blR.eq_def, Guard.ok.eq_1, Guard.ok.eq_2, Ev.R.opt.eq_def, attW.eq_def, Function.comp_def, enumW_map, toD.eq_1, toD.eq_2, toD.eq_3, Ev.D.datL.eq_1, Ev.D.datL.eq_2, Ev.D.dat.eq_1, Ev.D.dat.eq_2, Ev.D.dat.eq_3, Ev.D.dat.eq_4, Ev.D.dat.eq_5, Ev.D.dat.eq_6, Ev.D.dat.eq_7, Ev.D.dat.eq_8, TV.put.eq_1, TV.put.eq_2, TV.put.eq_3, Ev.T.put.eq_1, Ev.T.put.eq_2, Ev.T.put.eq_3, Ev.T.putL.eq_1, Ev.T.putL.eq_2, Ev.T.putL.eq_3, Ev.T.ix.eq_1, Ev.T.ix.eq_2, Ev.T.ixL.eq_1, Ev.T.ixL.eq_2, forget.eq_1, forget.eq_2, ixN.eq_def, turn.eq_def, f__law_name_b1.eq_1, lk__law_draw, e1, ↓hix, L]; (repeat rw [if_pos (by first | omega | (unfold LINE; omega) | (unfold LINE at *; omega))]); all_goals (first | rfl | exact ⟨rfl, rfl⟩ | exact ⟨rfl, rfl, rfl⟩ | exact ⟨rfl, rfl, rfl, rfl⟩ | (simp; done) | (unfold LINE; omega) | (unfold LINE at *; omega) | fail))
    simp only [List.map_cons, forLoop, Guard.ok, if_true, ht, e2]
end Ev
end

section
set_option linter.all false
set_option autoImplicit false
/-! EvD4: drawing names. -/
namespace Ev
variable {fuel k : Nat} {S : Store}
def SZ : List Int := [1, 1, 2, 2, 3, 8]
theorem letters_nz : ∀ j, j < 25 → letters[j]? ≠ some 'z' := by decide +kernel
theorem rangeW_nat (n : Nat) : rangeW 0 n = (List.range n).map fun i : Nat => TV.one (.d (.int i)) := by simp [rangeW]
theorem letters_inj {i j : Nat} {c : Char} (h1 : letters[i]? = some c) (h2 : letters[j]? = some c) : i = j := by
  have hi := (List.getElem?_eq_some_iff.mp h1).1
  have hj := (List.getElem?_eq_some_iff.mp h2).1
  have : ∀ i, i < 26 → ∀ j, j < 26 → letters[i]? = letters[j]? → i = j := by decide +kernel
  exact this i hi j hj (h1.trans h2.symm)
theorem taken_new {tk : List Txt} (h : TakenOk tk) {x : Txt} (hx : x ∉ tk) (h1 : IsName x) (h2 : x.length = 8 → x.head? ≠ some 'z') : TakenOk (tk ++ [x]) := by
  obtain ⟨a, b, c⟩ := h
  refine ⟨List.nodup_append.mpr ⟨a, by simp, by simp only [List.mem_singleton]; rintro y hy z rfl rfl; exact hx hy⟩, by simp only [List.mem_append, List.mem_singleton]; rintro y (hy | rfl); exact b y hy; exact h1, fun i y hi hl hz => ?_⟩
  by_cases hlt : i < tk.length
  · rw [List.getElem?_append_left hlt] at hi
    exact c i y hi hl hz
  · rw [List.getElem?_append_right (by omega)] at hi
    have : y = x := by
      cases h : i - tk.length with
      | zero => rw [h] at hi; simpa using hi.symm
      | succ n => rw [h] at hi; simp at hi
    subst this
    exact absurd hz (h2 hl)
theorem taken_zz {tk : List Txt} (h : TakenOk tk) {c : Char} (hc : letters[tk.length]? = some c) : TakenOk (tk ++ [zz ++ [c]]) := by
  obtain ⟨a, b, d⟩ := h
  have hm : c ∈ letters := List.mem_of_getElem? hc
  have hnot : zz ++ [c] ∉ tk := fun hx => by
    obtain ⟨i, hi⟩ := List.getElem?_of_mem hx
    obtain ⟨c', e1, e2⟩ := d i _ hi (by simp [zz]) (by simp [zz])
    have : c = c' := by simpa using e2
    subst this
    have := letters_inj e1 hc
    have := (List.getElem?_eq_some_iff.mp hi).1
    omega
  refine ⟨List.nodup_append.mpr ⟨a, by simp, by simp only [List.mem_singleton]; rintro y hy z rfl rfl; exact hnot hy⟩, by
    simp only [List.mem_append, List.mem_singleton]
    rintro y (hy | rfl)
    · exact b y hy
    · refine ⟨by simp [zz], by simp [zz], fun z hz => ?_⟩
      simp only [zz, List.cons_append, List.nil_append, List.mem_cons, List.not_mem_nil, or_false] at hz
      have hzz : 'z' ∈ letters := by decide
      rcases hz with rfl | rfl | rfl | rfl | rfl | rfl | rfl | rfl <;> assumption, fun i y hi hl hz => ?_⟩
  by_cases hlt : i < tk.length
  · rw [List.getElem?_append_left hlt] at hi
    exact d i y hi hl hz
  · rw [List.getElem?_append_right (by omega)] at hi
    have hn : i - tk.length = 0 := by
      cases h : i - tk.length with
      | zero => rfl
      | succ n => rw [h] at hi; simp at hi
    rw [hn] at hi
    have : i = tk.length := by omega
    subst this
    exact ⟨c, hc, by simpa using hi.symm⟩
theorem name_ok {p t : Nat} {X : List Nat} {tk : List Txt} (h : Pool S p X) (hX : Old S X) (ht : t ≠ p) (htk : S[t]? = some (.lst (strsW tk))) (hl : tk.length < 26) (hok : TakenOk tk) :
    Drew S p X (run P fuel (k + 2) "" "_law_name" [.r p, .r t] S) (fun v => ∃ x, v = .str x ∧ TakenOk (tk ++ [x])) := by
  obtain ⟨v1, T1, r1, p1, x1, n1, rfl, hn1⟩ := draw_lit (fuel := fuel) (k := k) h hX 6 (z := 6) rfl (by omega) (by omega)
  have hsz : ∃ z : Nat, SZ[n1]? = some (z : Int) ∧ 1 ≤ z ∧ z ≤ 8 := by
    have : ∀ n, n < 6 → SZ[n]? = some (((SZ.getD n 0).toNat : Nat) : Int) ∧ 1 ≤ (SZ.getD n 0).toNat ∧ (SZ.getD n 0).toNat ≤ 8 := by decide +kernel
    exact ⟨_, this n1 hn1⟩
  obtain ⟨z, hz, hz1, hz8⟩ := hsz
  have hi1 : ∀ S, op2 .idx (.d (.tup [.int 1, .int 1, .int 2, .int 2, .int 3, .int 8])) (.d (.int n1)) S = .ok (.d (.int z)) S := fun S => idx_tupD (l := SZ.map .int) (by rw [List.getElem?_map, hz]; rfl)
  have hX1 := hX.mono x1.1
  have key : ∃ c T2, Pool T2 p X ∧ Ext T1 T2 p ∧ c ∈ letters ∧ (z = 8 → c ≠ 'z') ∧ ∃ m : Int, (26 - (if (z : Int) = 8 then (1 : Int) else 0) = m) ∧ ∃ j : Nat, run P fuel (k + 1) "" "_law_draw" [.r p, .d (.int m)] T1 = .ok (.d (.int j)) T2 ∧ letters[j]? = some c := by
    by_cases h8 : z = 8
    · obtain ⟨v2, T2, r2, p2, x2, n2, rfl, hn2⟩ := draw_lit (fuel := fuel) (k := k) p1 hX1 25 (z := 25) rfl (by omega) (by omega)
      have hlt : n2 < letters.length := Nat.lt_trans hn2 (by decide)
      exact ⟨letters[n2], T2, p2, x2, List.getElem_mem hlt, fun _ e => letters_nz n2 hn2 (by rw [List.getElem?_eq_getElem hlt, e]), 25, by rw [if_pos (by omega)]; rfl, n2, r2, List.getElem?_eq_getElem hlt⟩
    · obtain ⟨v2, T2, r2, p2, x2, n2, rfl, hn2⟩ := draw_lit (fuel := fuel) (k := k) p1 hX1 26 (z := 26) rfl (by omega) (by omega)
      exact ⟨letters[n2]'hn2, T2, p2, x2, List.getElem_mem hn2, fun e => absurd e h8, 26, by rw [if_neg (by omega)]; rfl, n2, r2, List.getElem?_eq_getElem hn2⟩
  obtain ⟨c, T2, p2, x2, hc, hcz, m, hm, j, r2, hj⟩ := key
  have hX2 := hX1.mono x2.1
  have hi2 : ∀ S, op2 .idx (.d (.str letters)) (.d (.int j)) S = .ok (.d (.str [c])) S := fun S => str_idx (by decide) hj
  obtain ⟨w, d', T3, r3, p3, x3, m1, m2, c0, m3, m4⟩ := name_loop (fuel := fuel) (k := k) (some (.r t)) (some (.d (.int z))) (some (.d (.int z))) (fun c => z = 8 → c ≠ 'z') (List.range (z - 1)) [c] 1 T2 none p2 hX2 ⟨rfl, by simpa using hc, c, rfl, hcz⟩ (by simp; omega)
  have htk3 : T3[t]? = some (.lst (strsW tk)) := x3.get (x2.get (x1.get htk ht) ht) ht
  have x13 := (x1.trans x2).trans x3
  have hrng : rangeW 0 ((z : Int) - 1).toNat = (List.range (z - 1)).map fun i : Nat => TV.one (.d (.int i)) := by
    rw [show ((z : Int) - 1).toNat = z - 1 by omega]
    exact rangeW_nat _
  have B1 : -4611686018427387904 ≤ (z : Int) - 1 ∧ (z : Int) - 1 < 4611686018427387904 := by omega
  simp only [List.length_range] at m1
  have hwn : IsName w := ⟨by omega, by omega, m2⟩
  have hw8 : w.length = 8 → w.head? ≠ some 'z' := fun e e2 => by
    rw [m3] at e2
    cases e2
    exact m4 (by omega) rfl
  have hs := seqT_ref htk3
  rw [run__law_name]
  simp only [letters] at r3 hi2
  by_cases hw : w ∈ tk
  · obtain ⟨c9, hc9⟩ : ∃ c, letters[tk.length]? = some c := ⟨letters[tk.length]'hl, List.getElem?_eq_getElem hl⟩
    have hin := hs.yes hw
    have hi9 : ∀ S, op2 .idx (.d (.str letters)) (.d (.int tk.length)) S = .ok (.d (.str [c9])) S := fun S => str_idx (by decide) hc9
    simp only [letters] at hi9
    have hS : dS (P.cx fuel (run P fuel (k + 1))) f__law_name.body [some (.r p), some (.r t), none, none, none, none] S = .ok (.rt (.d (.str (zz ++ [c9])))) T3 := by
      (simp -implicitDefEqProofs -dsimp [dS_seq, dS_for, dS_while, dX_lc, dL_lc, dS.eq_1, dS.eq_3, dS.eq_4, dS.eq_5, dS.eq_6, dS.eq_7, dS.eq_8, dS.eq_9, dS.eq_12, dS.eq_13, dS.eq_14, dS.eq_15, dS.eq_16, dX.eq_1, dX.eq_2, dX.eq_3, dX.eq_4, dX.eq_5, dX.eq_6, dX.eq_7, dX.eq_8, dX.eq_9, dX.eq_10, dX.eq_11, dX.eq_12, dX.eq_13, dX.eq_14, dX.eq_15, dX.eq_16, dX.eq_17, dX.eq_18, dX.eq_20, dX.eq_21, dX.eq_22, dX.eq_23, dX.eq_24, dX.eq_25, dX.eq_26, dX.eq_27, dX.eq_28, dX.eq_29, dX.eq_30, dX.eq_31, dL.eq_1, dEs.eq_1, dEs.eq_2, dEs.eq_3, dTs.eq_1, dTs.eq_2, dTs.eq_3, dFs.eq_1, dFs.eq_2, dFs.eq_3, dI.eq_1, dI.eq_2, dI.eq_3, dI.eq_4, dI.eq_5, dI.eq_6, dT.eq_def, op1.eq_def, op2.eq_def, cmpI.eq_def, isCall.eq_def, isCall2.eq_def, recv.eq_def, in_chr, in_strtup, in_inttup, in_nontup, in_bltup, eqW_d, eqW_r, truth.eq_def, isiW.eq_def, walkW.eq_def, pairW.eq_def, isStr.eq_def, isLst.eq_def, recvM.eq_def, List.lookup.eq_1, List.lookup.eq_2, seqOf.eq_def, extOf.eq_def, dseq.eq_def, slW.eq_def, part.eq_def, isNone.eq_def, fmt.eq_def, augW.eq_def, newL.eq_def, blR.eq_def, Guard.ok.eq_1, Guard.ok.eq_2, Ev.R.opt.eq_def, attW.eq_def, Function.comp_def, enumW_map, toD.eq_1, toD.eq_2, toD.eq_3, Ev.D.datL.eq_1, Ev.D.datL.eq_2, Ev.D.dat.eq_1, Ev.D.dat.eq_2, Ev.D.dat.eq_3, Ev.D.dat.eq_4, Ev.D.dat.eq_5, Ev.D.dat.eq_6, Ev.D.dat.eq_7, Ev.D.dat.eq_8, TV.put.eq_1, TV.put.eq_2, TV.put.eq_3, Ev.T.put.eq_1, Ev.T.put.eq_2, Ev.T.put.eq_3, Ev.T.putL.eq_1, Ev.T.putL.eq_2, Ev.T.putL.eq_3, Ev.T.ix.eq_1, Ev.T.ix.eq_2, Ev.T.ixL.eq_1, Ev.T.ixL.eq_2, forget.eq_1, forget.eq_2, ixN.eq_def, f__law_name.eq_1, lk__law_draw, r1, ↓hi1, ↓hi2, hm, r2, B62.eq_def, B1, ↓hrng, r3, hin, htk3, ↓hi9, zz]; (repeat rw [if_pos (by first | omega | (unfold LINE; omega) | (unfold LINE at *; omega))]); all_goals (first | rfl | exact ⟨rfl, rfl⟩ | exact ⟨rfl, rfl, rfl⟩ | exact ⟨rfl, rfl, rfl, rfl⟩ | (simp; done) | (unfold LINE; omega) | (unfold LINE at *; omega) | fail))
    rw [hS]
    exact drew_of h p3 x13 ⟨_, rfl, taken_zz hok hc9⟩
  · have hin := hs.no hw
    have hS : dS (P.cx fuel (run P fuel (k + 1))) f__law_name.body [some (.r p), some (.r t), none, none, none, none] S = .ok (.rt (.d (.str w))) T3 := by
      (simp -implicitDefEqProofs -dsimp [dS_seq, dS_for, dS_while, dX_lc, dL_lc, dS.eq_1, dS.eq_3, dS.eq_4, dS.eq_5, dS.eq_6, dS.eq_7, dS.eq_8, dS.eq_9, dS.eq_12, dS.eq_13, dS.eq_14, dS.eq_15, dS.eq_16, dX.eq_1, dX.eq_2, dX.eq_3, dX.eq_4, dX.eq_5, dX.eq_6, dX.eq_7, dX.eq_8, dX.eq_9, dX.eq_10, dX.eq_11, dX.eq_12, dX.eq_13, dX.eq_14, dX.eq_15, dX.eq_16, dX.eq_17, dX.eq_18, dX.eq_20, dX.eq_21, dX.eq_22, dX.eq_23, dX.eq_24, dX.eq_25, dX.eq_26, dX.eq_27, dX.eq_28, dX.eq_29, dX.eq_30, dX.eq_31, dL.eq_1, dEs.eq_1, dEs.eq_2, dEs.eq_3, dTs.eq_1, dTs.eq_2, dTs.eq_3, dFs.eq_1, dFs.eq_2, dFs.eq_3, dI.eq_1, dI.eq_2, dI.eq_3, dI.eq_4, dI.eq_5, dI.eq_6, dT.eq_def, op1.eq_def, op2.eq_def, cmpI.eq_def, isCall.eq_def, isCall2.eq_def, recv.eq_def, in_chr, in_strtup, in_inttup, in_nontup, in_bltup, eqW_d, eqW_r, truth.eq_def, isiW.eq_def, walkW.eq_def, pairW.eq_def, isStr.eq_def, isLst.eq_def, recvM.eq_def, List.lookup.eq_1, List.lookup.eq_2, seqOf.eq_def, extOf.eq_def, dseq.eq_def, slW.eq_def, part.eq_def, isNone.eq_def, fmt.eq_def, augW.eq_def, newL.eq_def, blR.eq_def, Guard.ok.eq_1, Guard.ok.eq_2, Ev.R.opt.eq_def, attW.eq_def, Function.comp_def, enumW_map, toD.eq_1, toD.eq_2, toD.eq_3, Ev.D.datL.eq_1, Ev.D.datL.eq_2, Ev.D.dat.eq_1, Ev.D.dat.eq_2, Ev.D.dat.eq_3, Ev.D.dat.eq_4, Ev.D.dat.eq_5, Ev.D.dat.eq_6, Ev.D.dat.eq_7, Ev.D.dat.eq_8, TV.put.eq_1, TV.put.eq_2, TV.put.eq_3, Ev.T.put.eq_1, Ev.T.put.eq_2, Ev.T.put.eq_3, Ev.T.putL.eq_1, Ev.T.putL.eq_2, Ev.T.putL.eq_3, Ev.T.ix.eq_1, Ev.T.ix.eq_2, Ev.T.ixL.eq_1, Ev.T.ixL.eq_2, forget.eq_1, forget.eq_2, ixN.eq_def, f__law_name.eq_1, lk__law_draw, r1, ↓hi1, ↓hi2, hm, r2, B62.eq_def, B1, ↓hrng, r3, hin]; (repeat rw [if_pos (by first | omega | (unfold LINE; omega) | (unfold LINE at *; omega))]); all_goals (first | rfl | exact ⟨rfl, rfl⟩ | exact ⟨rfl, rfl, rfl⟩ | exact ⟨rfl, rfl, rfl, rfl⟩ | (simp; done) | (unfold LINE; omega) | (unfold LINE at *; omega) | fail))
    rw [hS]
    exact drew_of h p3 x13 ⟨_, rfl, taken_new hok hw hwn hw8⟩
end Ev
end

section
set_option linter.all false
set_option autoImplicit false
set_option maxHeartbeats 2000000
/-! EN5: the pool; comprehensions that draw. -/
namespace Ev
variable {fuel k : Nat} {S : Store}
inductive All2 {α β : Type} (R : α → β → Prop) : List α → List β → Prop
  | nil : All2 R [] []
  | cons {a : α} {b : β} {l : List α} {m : List β} (h : R a b) (t : All2 R l m) : All2 R (a :: l) (b :: m)
theorem old_nil : Old S [] := fun x hx => by simp at hx
theorem lc_draw {f : TV → Store → R (Option W)} {α : Type} (tv : α → TV) {p : Nat} {X : List Nat} {g : Guard} (hg : ∀ T, Ext S T p → Guard.ok T g = true) (R : α → D → Prop) (l : List α)
    (hf : ∀ x ∈ l, ∀ S', Pool S' p X → Old S' X → Ext S S' p → ∃ v T, f (tv x) S' = .ok (some (.d v)) T ∧ Pool T p X ∧ Ext S' T p ∧ R x v) :
    ∀ (acc : List W) (S' : Store), Pool S' p X → Old S' X → Ext S S' p → acc.length + l.length ≤ LINE → ∃ (vs : List D) (T : Store), lcLoop f g (l.map tv) acc S' = .ok (acc ++ vs.map W.d) T ∧ Pool T p X ∧ Ext S' T p ∧ All2 R l vs := by
  induction l with
  | nil => intro acc S' h hX hx _; exact ⟨[], S', by simp [lcLoop, hg S' hx], h, Ext.refl, .nil⟩
  | cons x l ih =>
    intro acc S' h hX hx hl
    obtain ⟨v, T, e1, p1, x1, hv⟩ := hf x (by simp) S' h hX hx
    simp only [List.length_cons] at hl
    obtain ⟨vs, T2, e2, p2, x2, hvs⟩ := ih (fun y hy => hf y (by simp [hy])) (acc ++ [.d v]) T p1 (hX.mono x1.1) (hx.trans x1) (by simp; omega)
    exact ⟨v :: vs, T2, by simp only [List.map_cons, lcLoop, hg S' hx, if_true, e1, show acc.length < LINE by omega, e2, List.append_assoc, List.singleton_append, List.cons_append, List.nil_append], p2, x1.trans x2, .cons hv hvs⟩
theorem lc_filter {f : TV → Store → R (Option W)} {α : Type} (tv : α → TV) (q : α → Bool) (h : α → W) (g : Guard) (S : Store) (hg : Guard.ok S g = true) (l : List α) (hf : ∀ x ∈ l, f (tv x) S = .ok (if q x then some (h x) else none) S) :
    ∀ acc : List W, acc.length + l.length ≤ LINE → lcLoop f g (l.map tv) acc S = .ok (acc ++ (l.filter q).map h) S := by
  intro acc hl
  have := lc_map (f := f) tv (fun x => if q x then some (h x) else none) g S hg l hf acc hl
  rw [this]
  congr 1
  congr 1
  clear this hf hl
  induction l with
  | nil => rfl
  | cons a r ih => by_cases hq : q a <;> simp [hq, ih]
theorem pool_ok (n : Nat) (xs : List Int) (hs : S[n]? = some (.fro (intsW xs))) : ∃ U, run P fuel (k + 1) "" "_law_pool" [.r n] S = .ok (.r (S.length + 4)) (S ++ U) ∧ Pool (S ++ U) (S.length + 4) [] := by
  have hn := lt_of_some hs
  have hs' := get_left hs
  have hc : ∀ l : List Int, cut (l.map fun x => W.d (.int x)) none (some 63) = intsW (l.take 63) := fun l => by
    rw [show (some (63 : Int)) = some ((63 : Nat) : Int) from rfl, cut_hi, ← List.map_take]
  have hl : (xs.take 63).length ≤ 63 := by simp; omega
  generalize hX : xs.take 63 = X at hl
  have L : X.length ≤ LINE := by unfold LINE; omega
  have c1 := lc_map (f := lturn (P.cx fuel (run P fuel k)) f__law_pool_c1 (.n 2) .nil [some (.r n), none, none, none, none]) (fun x : Int => TV.one (.d (.int x))) (fun x => some (.d (.int x))) [(S.length, intsW X)] (S ++ [.lst (intsW X)]) (by simp [Guard.ok]) X
    (fun x _ => by (simp -implicitDefEqProofs -dsimp [dS_seq, dS_for, dS_while, dX_lc, dL_lc, dS.eq_1, dS.eq_3, dS.eq_4, dS.eq_5, dS.eq_6, dS.eq_7, dS.eq_8, dS.eq_9, dS.eq_12, dS.eq_13, dS.eq_14, dS.eq_15, dS.eq_16, dX.eq_1, dX.eq_2, dX.eq_3, dX.eq_4, dX.eq_5, dX.eq_6, dX.eq_7, dX.eq_8, dX.eq_9, dX.eq_10, dX.eq_11, dX.eq_12, dX.eq_13, dX.eq_14, dX.eq_15, dX.eq_16, dX.eq_17, dX.eq_18, dX.eq_20, dX.eq_21, dX.eq_22, dX.eq_23, dX.eq_24, dX.eq_25, dX.eq_26, dX.eq_27, dX.eq_28, dX.eq_29, dX.eq_30, dX.eq_31, dL.eq_1, dEs.eq_1, dEs.eq_2, dEs.eq_3, dTs.eq_1, dTs.eq_2, dTs.eq_3, dFs.eq_1, dFs.eq_2, dFs.eq_3, dI.eq_1, dI.eq_2, dI.eq_3, dI.eq_4, dI.eq_5, dI.eq_6, dT.eq_def, op1.eq_def, op2.eq_def, cmpI.eq_def, isCall.eq_def, isCall2.eq_def, recv.eq_def, in_chr, in_strtup, in_inttup, in_nontup, in_bltup, eqW_d, eqW_r, truth.eq_def, isiW.eq_def, walkW.eq_def, pairW.eq_def, isStr.eq_def, isLst.eq_def, recvM.eq_def, List.lookup.eq_1, List.lookup.eq_2, seqOf.eq_def, extOf.eq_def, dseq.eq_def, slW.eq_def, part.eq_def, isNone.eq_def, fmt.eq_def, augW.eq_def, newL.eq_def, blR.eq_def, Guard.ok.eq_1, Guard.ok.eq_2, Ev.R.opt.eq_def, attW.eq_def, Function.comp_def, enumW_map, toD.eq_1, toD.eq_2, toD.eq_3, Ev.D.datL.eq_1, Ev.D.datL.eq_2, Ev.D.dat.eq_1, Ev.D.dat.eq_2, Ev.D.dat.eq_3, Ev.D.dat.eq_4, Ev.D.dat.eq_5, Ev.D.dat.eq_6, Ev.D.dat.eq_7, Ev.D.dat.eq_8, TV.put.eq_1, TV.put.eq_2, TV.put.eq_3, Ev.T.put.eq_1, Ev.T.put.eq_2, Ev.T.put.eq_3, Ev.T.putL.eq_1, Ev.T.putL.eq_2, Ev.T.putL.eq_3, Ev.T.ix.eq_1, Ev.T.ix.eq_2, Ev.T.ixL.eq_1, Ev.T.ixL.eq_2, forget.eq_1, forget.eq_2, ixN.eq_def, lturn.eq_def, f__law_pool_c1.eq_1]; (repeat rw [if_pos (by first | omega | (unfold LINE; omega) | (unfold LINE at *; omega))]); all_goals (first | rfl | exact ⟨rfl, rfl⟩ | exact ⟨rfl, rfl, rfl⟩ | exact ⟨rfl, rfl, rfl, rfl⟩ | (simp; done) | (unfold LINE; omega) | (unfold LINE at *; omega) | fail))) [] (by simpa using L)
  have c2 := lc_filter (f := lturn (P.cx fuel (run P fuel k)) f__law_pool_c2 (.n 2) f__law_pool_q1 [some (.r n), some (.r (S.length + 1)), none, none, none]) (fun x : Int => TV.one (.d (.int x))) (fun x => decide (1000000000000000000 ≤ (if x < 0 then -x else x))) (fun x => .d (.int (if x < 0 then -x else x))) [(S.length + 1, intsW X)] (S ++ [.lst (intsW X), .lst (intsW X)]) (by simp [Guard.ok]) X
    (fun x _ => by
      by_cases hq : 1000000000000000000 ≤ (if x < 0 then -x else x)
      · (simp -implicitDefEqProofs -dsimp [dS_seq, dS_for, dS_while, dX_lc, dL_lc, dS.eq_1, dS.eq_3, dS.eq_4, dS.eq_5, dS.eq_6, dS.eq_7, dS.eq_8, dS.eq_9, dS.eq_12, dS.eq_13, dS.eq_14, dS.eq_15, dS.eq_16, dX.eq_1, dX.eq_2, dX.eq_3, dX.eq_4, dX.eq_5, dX.eq_6, dX.eq_7, dX.eq_8, dX.eq_9, dX.eq_10, dX.eq_11, dX.eq_12, dX.eq_13, dX.eq_14, dX.eq_15, dX.eq_16, dX.eq_17, dX.eq_18, dX.eq_20, dX.eq_21, dX.eq_22, dX.eq_23, dX.eq_24, dX.eq_25, dX.eq_26, dX.eq_27, dX.eq_28, dX.eq_29, dX.eq_30, dX.eq_31, dL.eq_1, dEs.eq_1, dEs.eq_2, dEs.eq_3, dTs.eq_1, dTs.eq_2, dTs.eq_3, dFs.eq_1, dFs.eq_2, dFs.eq_3, dI.eq_1, dI.eq_2, dI.eq_3, dI.eq_4, dI.eq_5, dI.eq_6, dT.eq_def, op1.eq_def, op2.eq_def, cmpI.eq_def, isCall.eq_def, isCall2.eq_def, recv.eq_def, in_chr, in_strtup, in_inttup, in_nontup, in_bltup, eqW_d, eqW_r, truth.eq_def, isiW.eq_def, walkW.eq_def, pairW.eq_def, isStr.eq_def, isLst.eq_def, recvM.eq_def, List.lookup.eq_1, List.lookup.eq_2, seqOf.eq_def, extOf.eq_def, dseq.eq_def, slW.eq_def, part.eq_def, isNone.eq_def, fmt.eq_def, augW.eq_def, newL.eq_def, blR.eq_def, Guard.ok.eq_1, Guard.ok.eq_2, Ev.R.opt.eq_def, attW.eq_def, Function.comp_def, enumW_map, toD.eq_1, toD.eq_2, toD.eq_3, Ev.D.datL.eq_1, Ev.D.datL.eq_2, Ev.D.dat.eq_1, Ev.D.dat.eq_2, Ev.D.dat.eq_3, Ev.D.dat.eq_4, Ev.D.dat.eq_5, Ev.D.dat.eq_6, Ev.D.dat.eq_7, Ev.D.dat.eq_8, TV.put.eq_1, TV.put.eq_2, TV.put.eq_3, Ev.T.put.eq_1, Ev.T.put.eq_2, Ev.T.put.eq_3, Ev.T.putL.eq_1, Ev.T.putL.eq_2, Ev.T.putL.eq_3, Ev.T.ix.eq_1, Ev.T.ix.eq_2, Ev.T.ixL.eq_1, Ev.T.ixL.eq_2, forget.eq_1, forget.eq_2, ixN.eq_def, lturn.eq_def, f__law_pool_c2.eq_1, f__law_pool_q1.eq_1, hq]; (repeat rw [if_pos (by first | omega | (unfold LINE; omega) | (unfold LINE at *; omega))]); all_goals (first | rfl | exact ⟨rfl, rfl⟩ | exact ⟨rfl, rfl, rfl⟩ | exact ⟨rfl, rfl, rfl, rfl⟩ | (simp; done) | (unfold LINE; omega) | (unfold LINE at *; omega) | fail))
      · (simp -implicitDefEqProofs -dsimp [dS_seq, dS_for, dS_while, dX_lc, dL_lc, dS.eq_1, dS.eq_3, dS.eq_4, dS.eq_5, dS.eq_6, dS.eq_7, dS.eq_8, dS.eq_9, dS.eq_12, dS.eq_13, dS.eq_14, dS.eq_15, dS.eq_16, dX.eq_1, dX.eq_2, dX.eq_3, dX.eq_4, dX.eq_5, dX.eq_6, dX.eq_7, dX.eq_8, dX.eq_9, dX.eq_10, dX.eq_11, dX.eq_12, dX.eq_13, dX.eq_14, dX.eq_15, dX.eq_16, dX.eq_17, dX.eq_18, dX.eq_20, dX.eq_21, dX.eq_22, dX.eq_23, dX.eq_24, dX.eq_25, dX.eq_26, dX.eq_27, dX.eq_28, dX.eq_29, dX.eq_30, dX.eq_31, dL.eq_1, dEs.eq_1, dEs.eq_2, dEs.eq_3, dTs.eq_1, dTs.eq_2, dTs.eq_3, dFs.eq_1, dFs.eq_2, dFs.eq_3, dI.eq_1, dI.eq_2, dI.eq_3, dI.eq_4, dI.eq_5, dI.eq_6, dT.eq_def, op1.eq_def, op2.eq_def, cmpI.eq_def, isCall.eq_def, isCall2.eq_def, recv.eq_def, in_chr, in_strtup, in_inttup, in_nontup, in_bltup, eqW_d, eqW_r, truth.eq_def, isiW.eq_def, walkW.eq_def, pairW.eq_def, isStr.eq_def, isLst.eq_def, recvM.eq_def, List.lookup.eq_1, List.lookup.eq_2, seqOf.eq_def, extOf.eq_def, dseq.eq_def, slW.eq_def, part.eq_def, isNone.eq_def, fmt.eq_def, augW.eq_def, newL.eq_def, blR.eq_def, Guard.ok.eq_1, Guard.ok.eq_2, Ev.R.opt.eq_def, attW.eq_def, Function.comp_def, enumW_map, toD.eq_1, toD.eq_2, toD.eq_3, Ev.D.datL.eq_1, Ev.D.datL.eq_2, Ev.D.dat.eq_1, Ev.D.dat.eq_2, Ev.D.dat.eq_3, Ev.D.dat.eq_4, Ev.D.dat.eq_5, Ev.D.dat.eq_6, Ev.D.dat.eq_7, Ev.D.dat.eq_8, TV.put.eq_1, TV.put.eq_2, TV.put.eq_3, Ev.T.put.eq_1, Ev.T.put.eq_2, Ev.T.put.eq_3, Ev.T.putL.eq_1, Ev.T.putL.eq_2, Ev.T.putL.eq_3, Ev.T.ix.eq_1, Ev.T.ix.eq_2, Ev.T.ixL.eq_1, Ev.T.ixL.eq_2, forget.eq_1, forget.eq_2, ixN.eq_def, lturn.eq_def, f__law_pool_c2.eq_1, f__law_pool_q1.eq_1, hq]; (repeat rw [if_pos (by first | omega | (unfold LINE; omega) | (unfold LINE at *; omega))]); all_goals (first | rfl | exact ⟨rfl, rfl⟩ | exact ⟨rfl, rfl, rfl⟩ | exact ⟨rfl, rfl, rfl, rfl⟩ | (simp; done) | (unfold LINE; omega) | (unfold LINE at *; omega) | fail))) [] (by simpa using L)
  have k1 : (1000003 : Int) < 2 ^ 9000 := by decide +kernel
  have c3 := lc_filter (f := lturn (P.cx fuel (run P fuel k)) f__law_pool_c3 (.n 2) f__law_pool_q2 [some (.r n), some (.r (S.length + 1)), none, some (.r (S.length + 2)), none]) (fun x : Int => TV.one (.d (.int x))) (fun x => decide ((if x < 0 then -x else x) < 1000000000000000000)) (fun x => .d (.int (x % 1000003))) [(S.length + 1, intsW X)] (S ++ [.lst (intsW X), .lst (intsW X), .lst (intsW ((X.filter fun x => decide (1000000000000000000 ≤ (if x < 0 then -x else x))).map fun x => if x < 0 then -x else x))]) (by simp [Guard.ok]) X
    (fun x _ => by
      by_cases hq : (if x < 0 then -x else x) < 1000000000000000000
      · (simp -implicitDefEqProofs -dsimp [dS_seq, dS_for, dS_while, dX_lc, dL_lc, dS.eq_1, dS.eq_3, dS.eq_4, dS.eq_5, dS.eq_6, dS.eq_7, dS.eq_8, dS.eq_9, dS.eq_12, dS.eq_13, dS.eq_14, dS.eq_15, dS.eq_16, dX.eq_1, dX.eq_2, dX.eq_3, dX.eq_4, dX.eq_5, dX.eq_6, dX.eq_7, dX.eq_8, dX.eq_9, dX.eq_10, dX.eq_11, dX.eq_12, dX.eq_13, dX.eq_14, dX.eq_15, dX.eq_16, dX.eq_17, dX.eq_18, dX.eq_20, dX.eq_21, dX.eq_22, dX.eq_23, dX.eq_24, dX.eq_25, dX.eq_26, dX.eq_27, dX.eq_28, dX.eq_29, dX.eq_30, dX.eq_31, dL.eq_1, dEs.eq_1, dEs.eq_2, dEs.eq_3, dTs.eq_1, dTs.eq_2, dTs.eq_3, dFs.eq_1, dFs.eq_2, dFs.eq_3, dI.eq_1, dI.eq_2, dI.eq_3, dI.eq_4, dI.eq_5, dI.eq_6, dT.eq_def, op1.eq_def, op2.eq_def, cmpI.eq_def, isCall.eq_def, isCall2.eq_def, recv.eq_def, in_chr, in_strtup, in_inttup, in_nontup, in_bltup, eqW_d, eqW_r, truth.eq_def, isiW.eq_def, walkW.eq_def, pairW.eq_def, isStr.eq_def, isLst.eq_def, recvM.eq_def, List.lookup.eq_1, List.lookup.eq_2, seqOf.eq_def, extOf.eq_def, dseq.eq_def, slW.eq_def, part.eq_def, isNone.eq_def, fmt.eq_def, augW.eq_def, newL.eq_def, blR.eq_def, Guard.ok.eq_1, Guard.ok.eq_2, Ev.R.opt.eq_def, attW.eq_def, Function.comp_def, enumW_map, toD.eq_1, toD.eq_2, toD.eq_3, Ev.D.datL.eq_1, Ev.D.datL.eq_2, Ev.D.dat.eq_1, Ev.D.dat.eq_2, Ev.D.dat.eq_3, Ev.D.dat.eq_4, Ev.D.dat.eq_5, Ev.D.dat.eq_6, Ev.D.dat.eq_7, Ev.D.dat.eq_8, TV.put.eq_1, TV.put.eq_2, TV.put.eq_3, Ev.T.put.eq_1, Ev.T.put.eq_2, Ev.T.put.eq_3, Ev.T.putL.eq_1, Ev.T.putL.eq_2, Ev.T.putL.eq_3, Ev.T.ix.eq_1, Ev.T.ix.eq_2, Ev.T.ixL.eq_1, Ev.T.ixL.eq_2, forget.eq_1, forget.eq_2, ixN.eq_def, lturn.eq_def, f__law_pool_c3.eq_1, f__law_pool_q2.eq_1, hq, k1]; (repeat rw [if_pos (by first | omega | (unfold LINE; omega) | (unfold LINE at *; omega))]); all_goals (first | rfl | exact ⟨rfl, rfl⟩ | exact ⟨rfl, rfl, rfl⟩ | exact ⟨rfl, rfl, rfl, rfl⟩ | (simp; done) | (unfold LINE; omega) | (unfold LINE at *; omega) | fail))
      · (simp -implicitDefEqProofs -dsimp [dS_seq, dS_for, dS_while, dX_lc, dL_lc, dS.eq_1, dS.eq_3, dS.eq_4, dS.eq_5, dS.eq_6, dS.eq_7, dS.eq_8, dS.eq_9, dS.eq_12, dS.eq_13, dS.eq_14, dS.eq_15, dS.eq_16, dX.eq_1, dX.eq_2, dX.eq_3, dX.eq_4, dX.eq_5, dX.eq_6, dX.eq_7, dX.eq_8, dX.eq_9, dX.eq_10, dX.eq_11, dX.eq_12, dX.eq_13, dX.eq_14, dX.eq_15, dX.eq_16, dX.eq_17, dX.eq_18, dX.eq_20, dX.eq_21, dX.eq_22, dX.eq_23, dX.eq_24, dX.eq_25, dX.eq_26, dX.eq_27, dX.eq_28, dX.eq_29, dX.eq_30, dX.eq_31, dL.eq_1, dEs.eq_1, dEs.eq_2, dEs.eq_3, dTs.eq_1, dTs.eq_2, dTs.eq_3, dFs.eq_1, dFs.eq_2, dFs.eq_3, dI.eq_1, dI.eq_2, dI.eq_3, dI.eq_4, dI.eq_5, dI.eq_6, dT.eq_def, op1.eq_def, op2.eq_def, cmpI.eq_def, isCall.eq_def, isCall2.eq_def, recv.eq_def, in_chr, in_strtup, in_inttup, in_nontup, in_bltup, eqW_d, eqW_r, truth.eq_def, isiW.eq_def, walkW.eq_def, pairW.eq_def, isStr.eq_def, isLst.eq_def, recvM.eq_def, List.lookup.eq_1, List.lookup.eq_2, seqOf.eq_def, extOf.eq_def, dseq.eq_def, slW.eq_def, part.eq_def, isNone.eq_def, fmt.eq_def, augW.eq_def, newL.eq_def, blR.eq_def, Guard.ok.eq_1, Guard.ok.eq_2, Ev.R.opt.eq_def, attW.eq_def, Function.comp_def, enumW_map, toD.eq_1, toD.eq_2, toD.eq_3, Ev.D.datL.eq_1, Ev.D.datL.eq_2, Ev.D.dat.eq_1, Ev.D.dat.eq_2, Ev.D.dat.eq_3, Ev.D.dat.eq_4, Ev.D.dat.eq_5, Ev.D.dat.eq_6, Ev.D.dat.eq_7, Ev.D.dat.eq_8, TV.put.eq_1, TV.put.eq_2, TV.put.eq_3, Ev.T.put.eq_1, Ev.T.put.eq_2, Ev.T.put.eq_3, Ev.T.putL.eq_1, Ev.T.putL.eq_2, Ev.T.putL.eq_3, Ev.T.ix.eq_1, Ev.T.ix.eq_2, Ev.T.ixL.eq_1, Ev.T.ixL.eq_2, forget.eq_1, forget.eq_2, ixN.eq_def, lturn.eq_def, f__law_pool_c3.eq_1, f__law_pool_q2.eq_1, hq, k1]; (repeat rw [if_pos (by first | omega | (unfold LINE; omega) | (unfold LINE at *; omega))]); all_goals (first | rfl | exact ⟨rfl, rfl⟩ | exact ⟨rfl, rfl, rfl⟩ | exact ⟨rfl, rfl, rfl, rfl⟩ | (simp; done) | (unfold LINE; omega) | (unfold LINE at *; omega) | fail))) [] (by simpa using L)
  simp only [List.nil_append] at c1 c2 c3
  simp at c1
  generalize hG : ((X.filter fun x => decide (1000000000000000000 ≤ (if x < 0 then -x else x))).map fun x => if x < 0 then -x else x) = G at c3
  have hG' : (X.filter fun x => decide (1000000000000000000 ≤ (if x < 0 then -x else x))).map (fun x => W.d (.int (if x < 0 then -x else x))) = intsW G := by rw [← hG]; simp [intsW, Function.comp_def]
  rw [hG'] at c2
  have hM' : (X.filter fun x => decide ((if x < 0 then -x else x) < 1000000000000000000)).map (fun x => W.d (.int (x % 1000003))) = intsW ((X.filter fun x => decide ((if x < 0 then -x else x) < 1000000000000000000)).map fun x => x % 1000003) := by simp [intsW, Function.comp_def]
  rw [hM'] at c3
  generalize hM : ((X.filter fun x => decide ((if x < 0 then -x else x) < 1000000000000000000)).map fun x => x % 1000003) = M at c3
  have hGl : G.length ≤ LINE := by rw [← hG, List.length_map]; exact Nat.le_trans (List.length_filter_le _ _) L
  have hMl : M.length ≤ 63 := by rw [← hM, List.length_map]; exact Nat.le_trans (List.length_filter_le _ _) hl
  have hMl' : M.length ≤ LINE := by unfold LINE; omega
  have hGp : ∀ x ∈ G, 0 < x := fun x hx => by
    rw [← hG] at hx
    obtain ⟨y, hy, rfl⟩ := List.mem_map.mp hx
    have := (List.mem_filter.mp hy).2
    simp only [decide_eq_true_eq] at this
    omega
  have hcX := hc xs
  rw [hX] at hcX
  have e2 : dS (P.cx fuel (run P fuel k)) f__law_pool.body [some (.r n), none, none, none, none] S = .ok (.rt (.r (S.length + 4))) (S ++ [.lst (intsW X), .lst (intsW X), .lst (intsW G), .lst (intsW M), .lst [.r (S.length + 2), .r (S.length + 3), .d (.int 0), .d (.int 0)]]) := by
    (simp -implicitDefEqProofs -dsimp [dS_seq, dS_for, dS_while, dX_lc, dL_lc, dS.eq_1, dS.eq_3, dS.eq_4, dS.eq_5, dS.eq_6, dS.eq_7, dS.eq_8, dS.eq_9, dS.eq_12, dS.eq_13, dS.eq_14, dS.eq_15, dS.eq_16, dX.eq_1, dX.eq_2, dX.eq_3, dX.eq_4, dX.eq_5, dX.eq_6, dX.eq_7, dX.eq_8, dX.eq_9, dX.eq_10, dX.eq_11, dX.eq_12, dX.eq_13, dX.eq_14, dX.eq_15, dX.eq_16, dX.eq_17, dX.eq_18, dX.eq_20, dX.eq_21, dX.eq_22, dX.eq_23, dX.eq_24, dX.eq_25, dX.eq_26, dX.eq_27, dX.eq_28, dX.eq_29, dX.eq_30, dX.eq_31, dL.eq_1, dEs.eq_1, dEs.eq_2, dEs.eq_3, dTs.eq_1, dTs.eq_2, dTs.eq_3, dFs.eq_1, dFs.eq_2, dFs.eq_3, dI.eq_1, dI.eq_2, dI.eq_3, dI.eq_4, dI.eq_5, dI.eq_6, dT.eq_def, op1.eq_def, op2.eq_def, cmpI.eq_def, isCall.eq_def, isCall2.eq_def, recv.eq_def, in_chr, in_strtup, in_inttup, in_nontup, in_bltup, eqW_d, eqW_r, truth.eq_def, isiW.eq_def, walkW.eq_def, pairW.eq_def, isStr.eq_def, isLst.eq_def, recvM.eq_def, List.lookup.eq_1, List.lookup.eq_2, seqOf.eq_def, extOf.eq_def, dseq.eq_def, slW.eq_def, part.eq_def, isNone.eq_def, fmt.eq_def, augW.eq_def, newL.eq_def, blR.eq_def, Guard.ok.eq_1, Guard.ok.eq_2, Ev.R.opt.eq_def, attW.eq_def, Function.comp_def, enumW_map, toD.eq_1, toD.eq_2, toD.eq_3, Ev.D.datL.eq_1, Ev.D.datL.eq_2, Ev.D.dat.eq_1, Ev.D.dat.eq_2, Ev.D.dat.eq_3, Ev.D.dat.eq_4, Ev.D.dat.eq_5, Ev.D.dat.eq_6, Ev.D.dat.eq_7, Ev.D.dat.eq_8, TV.put.eq_1, TV.put.eq_2, TV.put.eq_3, Ev.T.put.eq_1, Ev.T.put.eq_2, Ev.T.put.eq_3, Ev.T.putL.eq_1, Ev.T.putL.eq_2, Ev.T.putL.eq_3, Ev.T.ix.eq_1, Ev.T.ix.eq_2, Ev.T.ixL.eq_1, Ev.T.ixL.eq_2, forget.eq_1, forget.eq_2, ixN.eq_def, f__law_pool.eq_1, hs, hs', hcX, c1, c2, c3, L, hGl, hMl']; (repeat rw [if_pos (by first | omega | (unfold LINE; omega) | (unfold LINE at *; omega))]); all_goals (first | rfl | exact ⟨rfl, rfl⟩ | exact ⟨rfl, rfl, rfl⟩ | exact ⟨rfl, rfl, rfl, rfl⟩ | (simp; done) | (unfold LINE; omega) | (unfold LINE at *; omega) | fail))
  refine ⟨[.lst (intsW X), .lst (intsW X), .lst (intsW G), .lst (intsW M), .lst [.r (S.length + 2), .r (S.length + 3), .d (.int 0), .d (.int 0)]], ?_, S.length + 2, S.length + 3, G, M, 0, 0, ?_, ?_, ?_, by omega, by omega, by simp, by simp, by simp, hGp, by omega, hMl⟩
  · rw [run__law_pool, e2]
    simp [fin, gcW, toD]
  · rw [get_app]; rfl
  · rw [get_app]; rfl
  · rw [get_app]; rfl
theorem lc_draw2 {f : TV → Store → R (Option W)} {α : Type} (tv : α → TV) {p : Nat} (R : D → Prop) (l : List α) (hf : ∀ x ∈ l, ∀ S', Pool S' p [] → ∃ v T, f (tv x) S' = .ok (some (.d v)) T ∧ Pool T p [] ∧ Ext S' T p ∧ R v) (S : Store) (h : Pool S p []) (hl : l.length ≤ 1000) :
    ∃ (vs : List D) (T : Store), lcLoop f [] (l.map tv) [] S = .ok (vs.map W.d) T ∧ Pool T p [] ∧ Ext S T p ∧ vs.length = l.length ∧ ∀ v ∈ vs, R v := by
  obtain ⟨vs, T, e1, p1, x1, ha⟩ := lc_draw (f := f) tv (g := []) (S := S) (fun _ _ => rfl) (fun _ v => R v) l (fun x hx S' hp hX hxx => hf x hx S' hp) [] S h old_nil Ext.refl (by unfold LINE; simp; omega)
  refine ⟨vs, T, by simpa using e1, p1, x1, ?_⟩
  clear e1 p1 x1 hf hl
  induction ha with
  | nil => simp
  | cons h _ ih => exact ⟨by simp [ih.1], by intro v hv; rcases List.mem_cons.mp hv with rfl | hv; exact h; exact ih.2 v hv⟩
/-- one of a row of any values -/
theorem pickW_ok {p n : Nat} {X : List Nat} {ws : List W} (h : Pool S p X) (hX : Old S X) (hn : n ≠ p) (hr : S[n]? = some (.lst ws)) (h1 : ws ≠ []) (h2 : ws.length ≤ 10 ^ 41) :
    ∃ w T, dS (P.cx fuel (run P fuel (k + 1))) f__law_pick.body [some (.r p), some (.r n)] S = .ok (.rt w) T ∧ Pool T p X ∧ Ext S T p ∧ w ∈ ws := by
  have h3 : 0 < ws.length := List.length_pos_iff.mpr h1
  obtain ⟨v, T, e1, p1, x1, i, rfl, hi⟩ := draw_ok (fuel := fuel) (k := k) h hX h3 h2
  have hl : op1 .len (.r n) S = .ok (.d (.int ws.length)) S := by simp [op1, seqOf, hr]
  have hx := idx_lst (x1.get hr hn) (List.getElem?_eq_getElem hi)
  exact ⟨_, T, by (simp -implicitDefEqProofs -dsimp [dS_seq, dS_for, dS_while, dX_lc, dL_lc, dS.eq_1, dS.eq_3, dS.eq_4, dS.eq_5, dS.eq_6, dS.eq_7, dS.eq_8, dS.eq_9, dS.eq_12, dS.eq_13, dS.eq_14, dS.eq_15, dS.eq_16, dX.eq_1, dX.eq_2, dX.eq_3, dX.eq_4, dX.eq_5, dX.eq_6, dX.eq_7, dX.eq_8, dX.eq_9, dX.eq_10, dX.eq_11, dX.eq_12, dX.eq_13, dX.eq_14, dX.eq_15, dX.eq_16, dX.eq_17, dX.eq_18, dX.eq_20, dX.eq_21, dX.eq_22, dX.eq_23, dX.eq_24, dX.eq_25, dX.eq_26, dX.eq_27, dX.eq_28, dX.eq_29, dX.eq_30, dX.eq_31, dL.eq_1, dEs.eq_1, dEs.eq_2, dEs.eq_3, dTs.eq_1, dTs.eq_2, dTs.eq_3, dFs.eq_1, dFs.eq_2, dFs.eq_3, dI.eq_1, dI.eq_2, dI.eq_3, dI.eq_4, dI.eq_5, dI.eq_6, dT.eq_def, op1.eq_def, op2.eq_def, cmpI.eq_def, isCall.eq_def, isCall2.eq_def, recv.eq_def, in_chr, in_strtup, in_inttup, in_nontup, in_bltup, eqW_d, eqW_r, truth.eq_def, isiW.eq_def, walkW.eq_def, pairW.eq_def, isStr.eq_def, isLst.eq_def, recvM.eq_def, List.lookup.eq_1, List.lookup.eq_2, seqOf.eq_def, extOf.eq_def, dseq.eq_def, slW.eq_def, part.eq_def, isNone.eq_def, fmt.eq_def, augW.eq_def, newL.eq_def, blR.eq_def, Guard.ok.eq_1, Guard.ok.eq_2, Ev.R.opt.eq_def, attW.eq_def, Function.comp_def, enumW_map, toD.eq_1, toD.eq_2, toD.eq_3, Ev.D.datL.eq_1, Ev.D.datL.eq_2, Ev.D.dat.eq_1, Ev.D.dat.eq_2, Ev.D.dat.eq_3, Ev.D.dat.eq_4, Ev.D.dat.eq_5, Ev.D.dat.eq_6, Ev.D.dat.eq_7, Ev.D.dat.eq_8, TV.put.eq_1, TV.put.eq_2, TV.put.eq_3, Ev.T.put.eq_1, Ev.T.put.eq_2, Ev.T.put.eq_3, Ev.T.putL.eq_1, Ev.T.putL.eq_2, Ev.T.putL.eq_3, Ev.T.ix.eq_1, Ev.T.ix.eq_2, Ev.T.ixL.eq_1, Ev.T.ixL.eq_2, forget.eq_1, forget.eq_2, ixN.eq_def, f__law_pick.eq_1, ↓hl, lk__law_draw, e1, ↓hx]; (repeat rw [if_pos (by first | omega | (unfold LINE; omega) | (unfold LINE at *; omega))]); all_goals (first | rfl | exact ⟨rfl, rfl⟩ | exact ⟨rfl, rfl, rfl⟩ | exact ⟨rfl, rfl, rfl, rfl⟩ | (simp; done) | (unfold LINE; omega) | (unfold LINE at *; omega) | fail)), p1, x1, List.getElem_mem hi⟩
end Ev
end

section
set_option linter.all false
set_option autoImplicit false
set_option maxHeartbeats 2000000
/-! EN6: what an exception is. -/
namespace Ev
variable {fuel k : Nat} {S : Store}
theorem gc_drawW {S' : Store} {p : Nat} {X : List Nat} {w : W} (hw : W.lt S.length w = true) (h : Pool S p X) (h' : Pool S' p X) (hx : Ext S S' p) : ∃ T, gcW S S' w = .ok w T ∧ Pool T p X ∧ Ext S T p := by
  obtain ⟨T, h1, h2, h3⟩ := gc_draw (v := .non) h h' hx
  cases w with
  | d v => exact gc_draw h h' hx
  | r m =>
    have hm : m < S.length := by simpa [W.lt] using hw
    refine ⟨T, ?_, h2, h3⟩
    unfold gcW at h1 ⊢
    cases ho : old S.length S' S with
    | none => rw [ho] at h1; simp only at h1 ⊢; cases h1; rfl
    | some U => rw [ho] at h1; simp only at h1 ⊢; cases h1; rw [if_pos hm]
@[simp] theorem cx_isx {call : String → String → List W → Store → R W} : (P.cx fuel call).isx = P.isx := rfl
@[simp] theorem cx_exn {call : String → String → List W → Store → R W} : (P.cx fuel call).exn = fun x => P.exns.lookup x := rfl
@[simp] theorem cxH_isx {x : Exn} : (P.cxH fuel x).isx = P.isx := rfl
@[simp] theorem cxH_calm {x : Exn} : (P.cxH fuel x).calm = false := rfl
@[simp] theorem cxH_cur {x : Exn} : (P.cxH fuel x).cur = some (x, 0) := rfl
def NS1 : List String := ["BadDeed", "BadFault", "BadJournal", "BatchRefused", "InvalidApp", "InvalidBound", "InvalidChange", "InvalidExpr", "InvalidKind", "InvalidParts"]
def NS2 : List String := ["InvalidRule", "InvalidRules", "InvalidText", "InvalidWindows", "LimitExceeded", "NoFault", "NoPart", "NoSlot", "NoStanding", "NotComparable", "NotSaved", "NothingToRedo", "NothingToUndo"]
def NS : List String := NS1 ++ NS2
theorem isx_ok : ∀ x ∈ NS, ∀ C ∈ NS, P.isx x C = some (x == C) := by decide +kernel
theorem isx_base : ∀ x ∈ NS, P.isx x "SessionError" = some true ∧ P.isx x "ValueError" = some true := by decide +kernel
theorem isi_exc {isx : String → String → Option Bool} {n : Nat} {x C : String} {fs : List (String × W)} (h : S[n]? = some (.exc x fs)) : isiW isx (.r n) (.cls C) S = isx x C := by simp [isiW, h]
def kinds1 (C : String) : List D := NS1.map fun y => .bl (C == y)
def kinds2 (C : String) : List D := NS2.map fun y => .bl (C == y)
theorem first_ok {n : Nat} {C : String} {fs : List (String × W)} (hC : C ∈ NS) (hn : S[n]? = some (.exc C fs)) : run P fuel (k + 1) "" "_law_first" [.r n] S = .ok (.r S.length) (S ++ [.lst ((kinds1 C).map W.d)]) := by
  have hi : ∀ isx U y, isiW isx (.r n) (.cls y) (S ++ U) = isx C y := fun isx U y => isi_exc (get_left hn U)
  have hi0 : ∀ isx y, isiW isx (.r n) (.cls y) S = isx C y := fun isx y => isi_exc hn
  have h1 := isx_ok C hC "BadDeed" (by decide)
  have h2 := isx_ok C hC "BadFault" (by decide)
  have h3 := isx_ok C hC "BadJournal" (by decide)
  have h4 := isx_ok C hC "BatchRefused" (by decide)
  have h5 := isx_ok C hC "InvalidApp" (by decide)
  have h6 := isx_ok C hC "InvalidBound" (by decide)
  have h7 := isx_ok C hC "InvalidChange" (by decide)
  have h8 := isx_ok C hC "InvalidExpr" (by decide)
  have h9 := isx_ok C hC "InvalidKind" (by decide)
  have h10 := isx_ok C hC "InvalidParts" (by decide)
  have hS : ∃ T, dS (P.cx fuel (run P fuel k)) f__law_first.body [some (.r n), none] S = .ok (.rt (.r (S.length + 4))) (S ++ T) ∧ T[4]? = some (.lst ((kinds1 C).map W.d)) := by
    exact ⟨_, by (simp -implicitDefEqProofs -dsimp [dS_seq, dS_for, dS_while, dX_lc, dL_lc, dS.eq_1, dS.eq_3, dS.eq_4, dS.eq_5, dS.eq_6, dS.eq_7, dS.eq_8, dS.eq_9, dS.eq_12, dS.eq_13, dS.eq_14, dS.eq_15, dS.eq_16, dX.eq_1, dX.eq_2, dX.eq_3, dX.eq_4, dX.eq_5, dX.eq_6, dX.eq_7, dX.eq_8, dX.eq_9, dX.eq_10, dX.eq_11, dX.eq_12, dX.eq_13, dX.eq_14, dX.eq_15, dX.eq_16, dX.eq_17, dX.eq_18, dX.eq_20, dX.eq_21, dX.eq_22, dX.eq_23, dX.eq_24, dX.eq_25, dX.eq_26, dX.eq_27, dX.eq_28, dX.eq_29, dX.eq_30, dX.eq_31, dL.eq_1, dEs.eq_1, dEs.eq_2, dEs.eq_3, dTs.eq_1, dTs.eq_2, dTs.eq_3, dFs.eq_1, dFs.eq_2, dFs.eq_3, dI.eq_1, dI.eq_2, dI.eq_3, dI.eq_4, dI.eq_5, dI.eq_6, dT.eq_def, op1.eq_def, op2.eq_def, cmpI.eq_def, isCall.eq_def, isCall2.eq_def, recv.eq_def, in_chr, in_strtup, in_inttup, in_nontup, in_bltup, eqW_d, eqW_r, truth.eq_def, isiW.eq_def, walkW.eq_def, pairW.eq_def, isStr.eq_def, isLst.eq_def, recvM.eq_def, List.lookup.eq_1, List.lookup.eq_2, seqOf.eq_def, extOf.eq_def, dseq.eq_def, slW.eq_def, part.eq_def, isNone.eq_def, fmt.eq_def, augW.eq_def, newL.eq_def, blR.eq_def, Guard.ok.eq_1, Guard.ok.eq_2, Ev.R.opt.eq_def, attW.eq_def, Function.comp_def, enumW_map, toD.eq_1, toD.eq_2, toD.eq_3, Ev.D.datL.eq_1, Ev.D.datL.eq_2, Ev.D.dat.eq_1, Ev.D.dat.eq_2, Ev.D.dat.eq_3, Ev.D.dat.eq_4, Ev.D.dat.eq_5, Ev.D.dat.eq_6, Ev.D.dat.eq_7, Ev.D.dat.eq_8, TV.put.eq_1, TV.put.eq_2, TV.put.eq_3, Ev.T.put.eq_1, Ev.T.put.eq_2, Ev.T.put.eq_3, Ev.T.putL.eq_1, Ev.T.putL.eq_2, Ev.T.putL.eq_3, Ev.T.ix.eq_1, Ev.T.ix.eq_2, Ev.T.ixL.eq_1, Ev.T.ixL.eq_2, forget.eq_1, forget.eq_2, ixN.eq_def, f__law_first.eq_1, ↓hi, ↓hi0, h1, h2, h3, h4, h5, h6, h7, h8, h9, h10]; (repeat rw [if_pos (by first | omega | (unfold LINE; omega) | (unfold LINE at *; omega))]); all_goals (first | rfl | exact ⟨rfl, rfl⟩ | exact ⟨rfl, rfl, rfl⟩ | exact ⟨rfl, rfl, rfl, rfl⟩ | (simp; done) | (unfold LINE; omega) | (unfold LINE at *; omega) | fail)), rfl⟩
  obtain ⟨T, hS, hT⟩ := hS
  rw [run__law_first, hS]
  exact fin_lst (by simp) (by omega) (by simp [hT]) (by simp)
end Ev
end

section
set_option linter.all false
set_option autoImplicit false
set_option maxHeartbeats 2000000
/-! EN7: the rest of the kinds; with the exception at hand. -/
namespace Ev
variable {fuel k : Nat} {S : Store}
theorem second_ok {n : Nat} {C : String} {fs : List (String × W)} (hC : C ∈ NS) (hn : S[n]? = some (.exc C fs)) : run P fuel (k + 1) "" "_law_second" [.r n] S = .ok (.r S.length) (S ++ [.lst ((kinds2 C).map W.d)]) := by
  have hi : ∀ isx U y, isiW isx (.r n) (.cls y) (S ++ U) = isx C y := fun isx U y => isi_exc (get_left hn U)
  have hi0 : ∀ isx y, isiW isx (.r n) (.cls y) S = isx C y := fun isx y => isi_exc hn
  have h0 := isx_ok C hC "InvalidRule" (by decide)
  have h1 := isx_ok C hC "InvalidRules" (by decide)
  have h2 := isx_ok C hC "InvalidText" (by decide)
  have h3 := isx_ok C hC "InvalidWindows" (by decide)
  have h4 := isx_ok C hC "LimitExceeded" (by decide)
  have h5 := isx_ok C hC "NoFault" (by decide)
  have h6 := isx_ok C hC "NoPart" (by decide)
  have h7 := isx_ok C hC "NoSlot" (by decide)
  have h8 := isx_ok C hC "NoStanding" (by decide)
  have h9 := isx_ok C hC "NotComparable" (by decide)
  have h10 := isx_ok C hC "NotSaved" (by decide)
  have h11 := isx_ok C hC "NothingToRedo" (by decide)
  have h12 := isx_ok C hC "NothingToUndo" (by decide)
  have hS : ∃ T, dS (P.cx fuel (run P fuel k)) f__law_second.body [some (.r n), none] S = .ok (.rt (.r (S.length + 8))) (S ++ T) ∧ T[8]? = some (.lst ((kinds2 C).map W.d)) := by
    exact ⟨_, by (simp -implicitDefEqProofs -dsimp [dS_seq, dS_for, dS_while, dX_lc, dL_lc, dS.eq_1, dS.eq_3, dS.eq_4, dS.eq_5, dS.eq_6, dS.eq_7, dS.eq_8, dS.eq_9, dS.eq_12, dS.eq_13, dS.eq_14, dS.eq_15, dS.eq_16, dX.eq_1, dX.eq_2, dX.eq_3, dX.eq_4, dX.eq_5, dX.eq_6, dX.eq_7, dX.eq_8, dX.eq_9, dX.eq_10, dX.eq_11, dX.eq_12, dX.eq_13, dX.eq_14, dX.eq_15, dX.eq_16, dX.eq_17, dX.eq_18, dX.eq_20, dX.eq_21, dX.eq_22, dX.eq_23, dX.eq_24, dX.eq_25, dX.eq_26, dX.eq_27, dX.eq_28, dX.eq_29, dX.eq_30, dX.eq_31, dL.eq_1, dEs.eq_1, dEs.eq_2, dEs.eq_3, dTs.eq_1, dTs.eq_2, dTs.eq_3, dFs.eq_1, dFs.eq_2, dFs.eq_3, dI.eq_1, dI.eq_2, dI.eq_3, dI.eq_4, dI.eq_5, dI.eq_6, dT.eq_def, op1.eq_def, op2.eq_def, cmpI.eq_def, isCall.eq_def, isCall2.eq_def, recv.eq_def, in_chr, in_strtup, in_inttup, in_nontup, in_bltup, eqW_d, eqW_r, truth.eq_def, isiW.eq_def, walkW.eq_def, pairW.eq_def, isStr.eq_def, isLst.eq_def, recvM.eq_def, List.lookup.eq_1, List.lookup.eq_2, seqOf.eq_def, extOf.eq_def, dseq.eq_def, slW.eq_def, part.eq_def, isNone.eq_def, fmt.eq_def, augW.eq_def, newL.eq_def, blR.eq_def, Guard.ok.eq_1, Guard.ok.eq_2, Ev.R.opt.eq_def, attW.eq_def, Function.comp_def, enumW_map, toD.eq_1, toD.eq_2, toD.eq_3, Ev.D.datL.eq_1, Ev.D.datL.eq_2, Ev.D.dat.eq_1, Ev.D.dat.eq_2, Ev.D.dat.eq_3, Ev.D.dat.eq_4, Ev.D.dat.eq_5, Ev.D.dat.eq_6, Ev.D.dat.eq_7, Ev.D.dat.eq_8, TV.put.eq_1, TV.put.eq_2, TV.put.eq_3, Ev.T.put.eq_1, Ev.T.put.eq_2, Ev.T.put.eq_3, Ev.T.putL.eq_1, Ev.T.putL.eq_2, Ev.T.putL.eq_3, Ev.T.ix.eq_1, Ev.T.ix.eq_2, Ev.T.ixL.eq_1, Ev.T.ixL.eq_2, forget.eq_1, forget.eq_2, ixN.eq_def, f__law_second.eq_1, ↓hi, ↓hi0, h0, h1, h2, h3, h4, h5, h6, h7, h8, h9, h10, h11, h12]; (repeat rw [if_pos (by first | omega | (unfold LINE; omega) | (unfold LINE at *; omega))]); all_goals (first | rfl | exact ⟨rfl, rfl⟩ | exact ⟨rfl, rfl, rfl⟩ | exact ⟨rfl, rfl, rfl, rfl⟩ | (simp; done) | (unfold LINE; omega) | (unfold LINE at *; omega) | fail)), rfl⟩
  obtain ⟨T, hS, hT⟩ := hS
  rw [run__law_second, hS]
  exact fin_lst (by simp) (by omega) (by simp [hT]) (by simp)
@[simp] theorem curC_v {x : Exn} {i j : Nat} : curC (some (x, j)) (.v i) = if i = j then some x else none := rfl
theorem first_hot {x : Exn} (hC : x.C ∈ NS) : runH P fuel "_law_first" x S = .ok (.r S.length) (S ++ [.lst ((kinds1 x.C).map W.d)]) := by
  have h0 := isx_ok x.C hC "BadDeed" (by decide)
  have h1 := isx_ok x.C hC "BadFault" (by decide)
  have h2 := isx_ok x.C hC "BadJournal" (by decide)
  have h3 := isx_ok x.C hC "BatchRefused" (by decide)
  have h4 := isx_ok x.C hC "InvalidApp" (by decide)
  have h5 := isx_ok x.C hC "InvalidBound" (by decide)
  have h6 := isx_ok x.C hC "InvalidChange" (by decide)
  have h7 := isx_ok x.C hC "InvalidExpr" (by decide)
  have h8 := isx_ok x.C hC "InvalidKind" (by decide)
  have h9 := isx_ok x.C hC "InvalidParts" (by decide)
  have hS : ∃ T, dS (P.cxH fuel x) f__law_first.body [none, none] S = .ok (.rt (.r (S.length + 4))) (S ++ T) ∧ T[4]? = some (.lst ((kinds1 x.C).map W.d)) := by
    exact ⟨_, by (simp -implicitDefEqProofs -dsimp [dS_seq, dS_for, dS_while, dX_lc, dL_lc, dS.eq_1, dS.eq_3, dS.eq_4, dS.eq_5, dS.eq_6, dS.eq_7, dS.eq_8, dS.eq_9, dS.eq_12, dS.eq_13, dS.eq_14, dS.eq_15, dS.eq_16, dX.eq_1, dX.eq_2, dX.eq_3, dX.eq_4, dX.eq_5, dX.eq_6, dX.eq_7, dX.eq_8, dX.eq_9, dX.eq_10, dX.eq_11, dX.eq_12, dX.eq_13, dX.eq_14, dX.eq_15, dX.eq_16, dX.eq_17, dX.eq_18, dX.eq_20, dX.eq_21, dX.eq_22, dX.eq_23, dX.eq_24, dX.eq_25, dX.eq_26, dX.eq_27, dX.eq_28, dX.eq_29, dX.eq_30, dX.eq_31, dL.eq_1, dEs.eq_1, dEs.eq_2, dEs.eq_3, dTs.eq_1, dTs.eq_2, dTs.eq_3, dFs.eq_1, dFs.eq_2, dFs.eq_3, dI.eq_1, dI.eq_2, dI.eq_3, dI.eq_4, dI.eq_5, dI.eq_6, dT.eq_def, op1.eq_def, op2.eq_def, cmpI.eq_def, isCall.eq_def, isCall2.eq_def, recv.eq_def, in_chr, in_strtup, in_inttup, in_nontup, in_bltup, eqW_d, eqW_r, truth.eq_def, isiW.eq_def, walkW.eq_def, pairW.eq_def, isStr.eq_def, isLst.eq_def, recvM.eq_def, List.lookup.eq_1, List.lookup.eq_2, seqOf.eq_def, extOf.eq_def, dseq.eq_def, slW.eq_def, part.eq_def, isNone.eq_def, fmt.eq_def, augW.eq_def, newL.eq_def, blR.eq_def, Guard.ok.eq_1, Guard.ok.eq_2, Ev.R.opt.eq_def, attW.eq_def, Function.comp_def, enumW_map, toD.eq_1, toD.eq_2, toD.eq_3, Ev.D.datL.eq_1, Ev.D.datL.eq_2, Ev.D.dat.eq_1, Ev.D.dat.eq_2, Ev.D.dat.eq_3, Ev.D.dat.eq_4, Ev.D.dat.eq_5, Ev.D.dat.eq_6, Ev.D.dat.eq_7, Ev.D.dat.eq_8, TV.put.eq_1, TV.put.eq_2, TV.put.eq_3, Ev.T.put.eq_1, Ev.T.put.eq_2, Ev.T.put.eq_3, Ev.T.putL.eq_1, Ev.T.putL.eq_2, Ev.T.putL.eq_3, Ev.T.ix.eq_1, Ev.T.ix.eq_2, Ev.T.ixL.eq_1, Ev.T.ixL.eq_2, forget.eq_1, forget.eq_2, ixN.eq_def, f__law_first.eq_1, isXt, h0, h1, h2, h3, h4, h5, h6, h7, h8, h9]; (repeat rw [if_pos (by first | omega | (unfold LINE; omega) | (unfold LINE at *; omega))]); all_goals (first | rfl | exact ⟨rfl, rfl⟩ | exact ⟨rfl, rfl, rfl⟩ | exact ⟨rfl, rfl, rfl, rfl⟩ | (simp; done) | (unfold LINE; omega) | (unfold LINE at *; omega) | fail)), rfl⟩
  obtain ⟨T, hS, hT⟩ := hS
  unfold runH
  rw [lk__law_first]
  show (if f__law_first.ps = 1 ∧ "_law_first" ≠ "__init__" ∧ 0 ∉ Ev.S.asg f__law_first.body then noErr (fin S (dS (P.cxH fuel x) f__law_first.body [none, none] S)) else .no) = _
  rw [if_pos (by decide), hS, fin_lst (l := (kinds1 x.C).map W.d) (by simp) (by omega) (by simp [hT]) (by simp)]
  rfl
theorem second_hot {x : Exn} (hC : x.C ∈ NS) : runH P fuel "_law_second" x S = .ok (.r S.length) (S ++ [.lst ((kinds2 x.C).map W.d)]) := by
  have h0 := isx_ok x.C hC "InvalidRule" (by decide)
  have h1 := isx_ok x.C hC "InvalidRules" (by decide)
  have h2 := isx_ok x.C hC "InvalidText" (by decide)
  have h3 := isx_ok x.C hC "InvalidWindows" (by decide)
  have h4 := isx_ok x.C hC "LimitExceeded" (by decide)
  have h5 := isx_ok x.C hC "NoFault" (by decide)
  have h6 := isx_ok x.C hC "NoPart" (by decide)
  have h7 := isx_ok x.C hC "NoSlot" (by decide)
  have h8 := isx_ok x.C hC "NoStanding" (by decide)
  have h9 := isx_ok x.C hC "NotComparable" (by decide)
  have h10 := isx_ok x.C hC "NotSaved" (by decide)
  have h11 := isx_ok x.C hC "NothingToRedo" (by decide)
  have h12 := isx_ok x.C hC "NothingToUndo" (by decide)
  have hS : ∃ T, dS (P.cxH fuel x) f__law_second.body [none, none] S = .ok (.rt (.r (S.length + 8))) (S ++ T) ∧ T[8]? = some (.lst ((kinds2 x.C).map W.d)) := by
    exact ⟨_, by (simp -implicitDefEqProofs -dsimp [dS_seq, dS_for, dS_while, dX_lc, dL_lc, dS.eq_1, dS.eq_3, dS.eq_4, dS.eq_5, dS.eq_6, dS.eq_7, dS.eq_8, dS.eq_9, dS.eq_12, dS.eq_13, dS.eq_14, dS.eq_15, dS.eq_16, dX.eq_1, dX.eq_2, dX.eq_3, dX.eq_4, dX.eq_5, dX.eq_6, dX.eq_7, dX.eq_8, dX.eq_9, dX.eq_10, dX.eq_11, dX.eq_12, dX.eq_13, dX.eq_14, dX.eq_15, dX.eq_16, dX.eq_17, dX.eq_18, dX.eq_20, dX.eq_21, dX.eq_22, dX.eq_23, dX.eq_24, dX.eq_25, dX.eq_26, dX.eq_27, dX.eq_28, dX.eq_29, dX.eq_30, dX.eq_31, dL.eq_1, dEs.eq_1, dEs.eq_2, dEs.eq_3, dTs.eq_1, dTs.eq_2, dTs.eq_3, dFs.eq_1, dFs.eq_2, dFs.eq_3, dI.eq_1, dI.eq_2, dI.eq_3, dI.eq_4, dI.eq_5, dI.eq_6, dT.eq_def, op1.eq_def, op2.eq_def, cmpI.eq_def, isCall.eq_def, isCall2.eq_def, recv.eq_def, in_chr, in_strtup, in_inttup, in_nontup, in_bltup, eqW_d, eqW_r, truth.eq_def, isiW.eq_def, walkW.eq_def, pairW.eq_def, isStr.eq_def, isLst.eq_def, recvM.eq_def, List.lookup.eq_1, List.lookup.eq_2, seqOf.eq_def, extOf.eq_def, dseq.eq_def, slW.eq_def, part.eq_def, isNone.eq_def, fmt.eq_def, augW.eq_def, newL.eq_def, blR.eq_def, Guard.ok.eq_1, Guard.ok.eq_2, Ev.R.opt.eq_def, attW.eq_def, Function.comp_def, enumW_map, toD.eq_1, toD.eq_2, toD.eq_3, Ev.D.datL.eq_1, Ev.D.datL.eq_2, Ev.D.dat.eq_1, Ev.D.dat.eq_2, Ev.D.dat.eq_3, Ev.D.dat.eq_4, Ev.D.dat.eq_5, Ev.D.dat.eq_6, Ev.D.dat.eq_7, Ev.D.dat.eq_8, TV.put.eq_1, TV.put.eq_2, TV.put.eq_3, Ev.T.put.eq_1, Ev.T.put.eq_2, Ev.T.put.eq_3, Ev.T.putL.eq_1, Ev.T.putL.eq_2, Ev.T.putL.eq_3, Ev.T.ix.eq_1, Ev.T.ix.eq_2, Ev.T.ixL.eq_1, Ev.T.ixL.eq_2, forget.eq_1, forget.eq_2, ixN.eq_def, f__law_second.eq_1, isXt, h0, h1, h2, h3, h4, h5, h6, h7, h8, h9, h10, h11, h12]; (repeat rw [if_pos (by first | omega | (unfold LINE; omega) | (unfold LINE at *; omega))]); all_goals (first | rfl | exact ⟨rfl, rfl⟩ | exact ⟨rfl, rfl, rfl⟩ | exact ⟨rfl, rfl, rfl, rfl⟩ | (simp; done) | (unfold LINE; omega) | (unfold LINE at *; omega) | fail)), rfl⟩
  obtain ⟨T, hS, hT⟩ := hS
  unfold runH
  rw [lk__law_second]
  show (if f__law_second.ps = 1 ∧ "_law_second" ≠ "__init__" ∧ 0 ∉ Ev.S.asg f__law_second.body then noErr (fin S (dS (P.cxH fuel x) f__law_second.body [none, none] S)) else .no) = _
  rw [if_pos (by decide), hS, fin_lst (l := (kinds2 x.C).map W.d) (by simp) (by omega) (by simp [hT]) (by simp)]
  rfl
def kinds (C : String) : List D := NS.map fun y => .bl (C == y)
theorem kinds_app (C : String) : (kinds1 C).map W.d ++ (kinds2 C).map W.d = (kinds C).map W.d := by rw [← List.map_append]; rfl
theorem kinds_len (C : String) : (kinds C).length = 23 := rfl
theorem kinds_at : ∀ p, p < 23 → ∀ j, j < 23 → (kinds (NS.getD p ""))[j]? = some (.bl (j == p)) := by decide +kernel
theorem NS_mem : ∀ p, p < 23 → NS.getD p "" ∈ NS := by decide +kernel
theorem alone_ok {n p : Nat} {fs : List (String × W)} (hp : p < 23) (hn : S[n]? = some (.exc (NS.getD p "") fs)) : run P fuel (k + 2) "" "_law_alone" [.r n, .d (.int p)] S = .ok (.d (.bl true)) S := by
  have hm := NS_mem p hp
  generalize hC : NS.getD p "" = C at hn hm
  have f1 := first_ok (fuel := fuel) (k := k) hm hn
  have f2 := second_ok (fuel := fuel) (k := k) (S := S ++ [.lst ((kinds1 C).map W.d)]) hm (get_left hn _)
  have hi : ∀ isx U y, isiW isx (.r n) (.cls y) (S ++ U) = isx C y := fun isx U y => isi_exc (get_left hn U)
  obtain ⟨b1, b2⟩ := isx_base C hm
  obtain ⟨e', hw, w, rfl⟩ := for_pass (f := turn (P.cx fuel (run P fuel (k + 1))) (.n 3) f__law_alone_b1) (fun i : Nat => TV.one (.d (.int i)))
    (fun e => ∃ w, e = [some (.r n), some (.d (.int p)), some (.r (S.length + 2)), w]) (S ++ [.lst ((kinds1 C).map W.d), .lst ((kinds2 C).map W.d), .lst ((kinds C).map W.d)]) (g := []) rfl (List.range 23)
    (fun x hx e ⟨w, he⟩ => by
      subst he
      have hx : x < 23 := by simpa using hx
      have ha : ((kinds C).map W.d)[x]? = some (.d (.bl (x == p))) := by rw [List.getElem?_map, ← hC, kinds_at p hp x hx]; rfl
      have hix := fun (U : Store) (hU : U[2]? = some (.lst ((kinds C).map W.d))) => idx_lst (S := S ++ U) (n := S.length + 2) (by rw [get_app]; exact hU) ha
      have hix := hix [.lst ((kinds1 C).map W.d), .lst ((kinds2 C).map W.d), .lst ((kinds C).map W.d)] rfl
      by_cases hxp : x = p
      · subst hxp
        exact ⟨_, by (simp -implicitDefEqProofs -dsimp [dS_seq, dS_for, dS_while, dX_lc, dL_lc, dS.eq_1, dS.eq_3, dS.eq_4, dS.eq_5, dS.eq_6, dS.eq_7, dS.eq_8, dS.eq_9, dS.eq_12, dS.eq_13, dS.eq_14, dS.eq_15, dS.eq_16, dX.eq_1, dX.eq_2, dX.eq_3, dX.eq_4, dX.eq_5, dX.eq_6, dX.eq_7, dX.eq_8, dX.eq_9, dX.eq_10, dX.eq_11, dX.eq_12, dX.eq_13, dX.eq_14, dX.eq_15, dX.eq_16, dX.eq_17, dX.eq_18, dX.eq_20, dX.eq_21, dX.eq_22, dX.eq_23, dX.eq_24, dX.eq_25, dX.eq_26, dX.eq_27, dX.eq_28, dX.eq_29, dX.eq_30, dX.eq_31, dL.eq_1, dEs.eq_1, dEs.eq_2, dEs.eq_3, dTs.eq_1, dTs.eq_2, dTs.eq_3, dFs.eq_1, dFs.eq_2, dFs.eq_3, dI.eq_1, dI.eq_2, dI.eq_3, dI.eq_4, dI.eq_5, dI.eq_6, dT.eq_def, op1.eq_def, op2.eq_def, cmpI.eq_def, isCall.eq_def, isCall2.eq_def, recv.eq_def, in_chr, in_strtup, in_inttup, in_nontup, in_bltup, eqW_d, eqW_r, truth.eq_def, isiW.eq_def, walkW.eq_def, pairW.eq_def, isStr.eq_def, isLst.eq_def, recvM.eq_def, List.lookup.eq_1, List.lookup.eq_2, seqOf.eq_def, extOf.eq_def, dseq.eq_def, slW.eq_def, part.eq_def, isNone.eq_def, fmt.eq_def, augW.eq_def, newL.eq_def, blR.eq_def, Guard.ok.eq_1, Guard.ok.eq_2, Ev.R.opt.eq_def, attW.eq_def, Function.comp_def, enumW_map, toD.eq_1, toD.eq_2, toD.eq_3, Ev.D.datL.eq_1, Ev.D.datL.eq_2, Ev.D.dat.eq_1, Ev.D.dat.eq_2, Ev.D.dat.eq_3, Ev.D.dat.eq_4, Ev.D.dat.eq_5, Ev.D.dat.eq_6, Ev.D.dat.eq_7, Ev.D.dat.eq_8, TV.put.eq_1, TV.put.eq_2, TV.put.eq_3, Ev.T.put.eq_1, Ev.T.put.eq_2, Ev.T.put.eq_3, Ev.T.putL.eq_1, Ev.T.putL.eq_2, Ev.T.putL.eq_3, Ev.T.ix.eq_1, Ev.T.ix.eq_2, Ev.T.ixL.eq_1, Ev.T.ixL.eq_2, forget.eq_1, forget.eq_2, ixN.eq_def, turn.eq_def, f__law_alone_b1.eq_1, ↓hix, Ev.D.eqv.eq_1, Ev.D.eqv.eq_2, Ev.D.eqv.eq_3, Ev.D.eqv.eq_4, Ev.D.eqv.eq_5, Ev.D.eqv.eq_6, Ev.D.eqv.eq_7, Ev.D.eqv.eq_8]; (repeat rw [if_pos (by first | omega | (unfold LINE; omega) | (unfold LINE at *; omega))]); all_goals (first | rfl | exact ⟨rfl, rfl⟩ | exact ⟨rfl, rfl, rfl⟩ | exact ⟨rfl, rfl, rfl, rfl⟩ | (simp; done) | (unfold LINE; omega) | (unfold LINE at *; omega) | fail)), _, rfl⟩
      · have h1 : ¬ ((x : Int) = (p : Int)) := by omega
        have h2 : (x == p) = false := by simpa using hxp
        rw [h2] at hix
        exact ⟨_, by (simp -implicitDefEqProofs -dsimp [dS_seq, dS_for, dS_while, dX_lc, dL_lc, dS.eq_1, dS.eq_3, dS.eq_4, dS.eq_5, dS.eq_6, dS.eq_7, dS.eq_8, dS.eq_9, dS.eq_12, dS.eq_13, dS.eq_14, dS.eq_15, dS.eq_16, dX.eq_1, dX.eq_2, dX.eq_3, dX.eq_4, dX.eq_5, dX.eq_6, dX.eq_7, dX.eq_8, dX.eq_9, dX.eq_10, dX.eq_11, dX.eq_12, dX.eq_13, dX.eq_14, dX.eq_15, dX.eq_16, dX.eq_17, dX.eq_18, dX.eq_20, dX.eq_21, dX.eq_22, dX.eq_23, dX.eq_24, dX.eq_25, dX.eq_26, dX.eq_27, dX.eq_28, dX.eq_29, dX.eq_30, dX.eq_31, dL.eq_1, dEs.eq_1, dEs.eq_2, dEs.eq_3, dTs.eq_1, dTs.eq_2, dTs.eq_3, dFs.eq_1, dFs.eq_2, dFs.eq_3, dI.eq_1, dI.eq_2, dI.eq_3, dI.eq_4, dI.eq_5, dI.eq_6, dT.eq_def, op1.eq_def, op2.eq_def, cmpI.eq_def, isCall.eq_def, isCall2.eq_def, recv.eq_def, in_chr, in_strtup, in_inttup, in_nontup, in_bltup, eqW_d, eqW_r, truth.eq_def, isiW.eq_def, walkW.eq_def, pairW.eq_def, isStr.eq_def, isLst.eq_def, recvM.eq_def, List.lookup.eq_1, List.lookup.eq_2, seqOf.eq_def, extOf.eq_def, dseq.eq_def, slW.eq_def, part.eq_def, isNone.eq_def, fmt.eq_def, augW.eq_def, newL.eq_def, blR.eq_def, Guard.ok.eq_1, Guard.ok.eq_2, Ev.R.opt.eq_def, attW.eq_def, Function.comp_def, enumW_map, toD.eq_1, toD.eq_2, toD.eq_3, Ev.D.datL.eq_1, Ev.D.datL.eq_2, Ev.D.dat.eq_1, Ev.D.dat.eq_2, Ev.D.dat.eq_3, Ev.D.dat.eq_4, Ev.D.dat.eq_5, Ev.D.dat.eq_6, Ev.D.dat.eq_7, Ev.D.dat.eq_8, TV.put.eq_1, TV.put.eq_2, TV.put.eq_3, Ev.T.put.eq_1, Ev.T.put.eq_2, Ev.T.put.eq_3, Ev.T.putL.eq_1, Ev.T.putL.eq_2, Ev.T.putL.eq_3, Ev.T.ix.eq_1, Ev.T.ix.eq_2, Ev.T.ixL.eq_1, Ev.T.ixL.eq_2, forget.eq_1, forget.eq_2, ixN.eq_def, turn.eq_def, f__law_alone_b1.eq_1, ↓hix, h1, Ev.D.eqv.eq_1, Ev.D.eqv.eq_2, Ev.D.eqv.eq_3, Ev.D.eqv.eq_4, Ev.D.eqv.eq_5, Ev.D.eqv.eq_6, Ev.D.eqv.eq_7, Ev.D.eqv.eq_8]; (repeat rw [if_pos (by first | omega | (unfold LINE; omega) | (unfold LINE at *; omega))]); all_goals (first | rfl | exact ⟨rfl, rfl⟩ | exact ⟨rfl, rfl, rfl⟩ | exact ⟨rfl, rfl, rfl, rfl⟩ | (simp; done) | (unfold LINE; omega) | (unfold LINE at *; omega) | fail)), _, rfl⟩)
    [some (.r n), some (.d (.int p)), some (.r (S.length + 2)), none] ⟨_, rfl⟩
  have hr : rangeW 0 23 = (List.range 23).map fun i : Nat => TV.one (.d (.int i)) := rangeW_nat 23
  have ka := kinds_app C
  have kl : (kinds1 C).length + (kinds2 C).length = 23 := rfl
  have kl2 := kinds_len C
  rw [run__law_alone]
  have hS : ∃ T, dS (P.cx fuel (run P fuel (k + 1))) f__law_alone.body [some (.r n), some (.d (.int p)), none, none] S = .ok (.rt (.d (.bl true))) (S ++ T) := by
    exact ⟨_, by (simp -implicitDefEqProofs -dsimp [dS_seq, dS_for, dS_while, dX_lc, dL_lc, dS.eq_1, dS.eq_3, dS.eq_4, dS.eq_5, dS.eq_6, dS.eq_7, dS.eq_8, dS.eq_9, dS.eq_12, dS.eq_13, dS.eq_14, dS.eq_15, dS.eq_16, dX.eq_1, dX.eq_2, dX.eq_3, dX.eq_4, dX.eq_5, dX.eq_6, dX.eq_7, dX.eq_8, dX.eq_9, dX.eq_10, dX.eq_11, dX.eq_12, dX.eq_13, dX.eq_14, dX.eq_15, dX.eq_16, dX.eq_17, dX.eq_18, dX.eq_20, dX.eq_21, dX.eq_22, dX.eq_23, dX.eq_24, dX.eq_25, dX.eq_26, dX.eq_27, dX.eq_28, dX.eq_29, dX.eq_30, dX.eq_31, dL.eq_1, dEs.eq_1, dEs.eq_2, dEs.eq_3, dTs.eq_1, dTs.eq_2, dTs.eq_3, dFs.eq_1, dFs.eq_2, dFs.eq_3, dI.eq_1, dI.eq_2, dI.eq_3, dI.eq_4, dI.eq_5, dI.eq_6, dT.eq_def, op1.eq_def, op2.eq_def, cmpI.eq_def, isCall.eq_def, isCall2.eq_def, recv.eq_def, in_chr, in_strtup, in_inttup, in_nontup, in_bltup, eqW_d, eqW_r, truth.eq_def, isiW.eq_def, walkW.eq_def, pairW.eq_def, isStr.eq_def, isLst.eq_def, recvM.eq_def, List.lookup.eq_1, List.lookup.eq_2, seqOf.eq_def, extOf.eq_def, dseq.eq_def, slW.eq_def, part.eq_def, isNone.eq_def, fmt.eq_def, augW.eq_def, newL.eq_def, blR.eq_def, Guard.ok.eq_1, Guard.ok.eq_2, Ev.R.opt.eq_def, attW.eq_def, Function.comp_def, enumW_map, toD.eq_1, toD.eq_2, toD.eq_3, Ev.D.datL.eq_1, Ev.D.datL.eq_2, Ev.D.dat.eq_1, Ev.D.dat.eq_2, Ev.D.dat.eq_3, Ev.D.dat.eq_4, Ev.D.dat.eq_5, Ev.D.dat.eq_6, Ev.D.dat.eq_7, Ev.D.dat.eq_8, TV.put.eq_1, TV.put.eq_2, TV.put.eq_3, Ev.T.put.eq_1, Ev.T.put.eq_2, Ev.T.put.eq_3, Ev.T.putL.eq_1, Ev.T.putL.eq_2, Ev.T.putL.eq_3, Ev.T.ix.eq_1, Ev.T.ix.eq_2, Ev.T.ixL.eq_1, Ev.T.ixL.eq_2, forget.eq_1, forget.eq_2, ixN.eq_def, f__law_alone.eq_1, lk__law_first, lk__law_second, f1, f2, ka, kl, kl2, B62.eq_def, ↓hr, hw, ↓hi, b1, b2]; (repeat rw [if_pos (by first | omega | (unfold LINE; omega) | (unfold LINE at *; omega))]); all_goals (first | rfl | exact ⟨rfl, rfl⟩ | exact ⟨rfl, rfl, rfl⟩ | exact ⟨rfl, rfl, rfl, rfl⟩ | (simp; done) | (unfold LINE; omega) | (unfold LINE at *; omega) | fail))⟩
  obtain ⟨T, hS⟩ := hS
  rw [hS, fin_rt_d]
end Ev
end

section
set_option linter.all false
set_option autoImplicit false
set_option maxHeartbeats 4000000
/-! EN8: the errors made, their fields. -/
namespace Ev
variable {fuel k : Nat} {S : Store}
def EX (s : W) (n : Int) (pa : List D) (nm : Txt) : List (String × List (String × W)) := [("BadDeed", [("deed", s)]), ("BadFault", [("fault", s)]), ("BadJournal", [("index", .d (.int n))]), ("BatchRefused", [("index", .d (.int n))]), ("InvalidApp", [("part", .d (.str nm)), ("path", .d (.tup pa))]), ("InvalidBound", [("value", s)]), ("InvalidChange", [("index", .d (.int n))]), ("InvalidExpr", [("path", .d (.tup pa))]), ("InvalidKind", [("kind", s)]), ("InvalidParts", [("index", .d (.int n))]), ("InvalidRule", [("part", .d (.str nm))]), ("InvalidRules", []), ("InvalidText", [("line", .d (.int n))]), ("InvalidWindows", [("part", .d (.str nm))]), ("LimitExceeded", [("limit", .d (.int (n + 1)))]), ("NoFault", [("kind", s), ("name", .d (.str nm))]), ("NoPart", [("value", s)]), ("NoSlot", [("slot", s)]), ("NoStanding", []), ("NotComparable", [("part", .d (.str nm))]), ("NotSaved", []), ("NothingToRedo", []), ("NothingToUndo", [])]
def madeU (b : Nat) (s : W) (n : Int) (pa : List D) (nm : Txt) : Store := [.exc "BadDeed" [("deed", s)],
  .exc "BadFault" [("fault", s)],
  .exc "BadJournal" [("index", .d (.int n))],
  .exc "BatchRefused" [("index", .d (.int n))],
  .exc "InvalidApp" [("part", .d (.str nm)), ("path", .d (.tup pa))],
  .lst [.r (b + 0), .r (b + 1), .r (b + 2), .r (b + 3), .r (b + 4)],
  .exc "InvalidBound" [("value", s)],
  .exc "InvalidChange" [("index", .d (.int n))],
  .exc "InvalidExpr" [("path", .d (.tup pa))],
  .exc "InvalidKind" [("kind", s)],
  .lst [.r (b + 6), .r (b + 7), .r (b + 8), .r (b + 9)],
  .lst [.r (b + 0), .r (b + 1), .r (b + 2), .r (b + 3), .r (b + 4), .r (b + 6), .r (b + 7), .r (b + 8), .r (b + 9)],
  .exc "InvalidParts" [("index", .d (.int n))],
  .exc "InvalidRule" [("part", .d (.str nm))],
  .exc "InvalidRules" [],
  .exc "InvalidText" [("line", .d (.int n))],
  .exc "InvalidWindows" [("part", .d (.str nm))],
  .lst [.r (b + 12), .r (b + 13), .r (b + 14), .r (b + 15), .r (b + 16)],
  .lst [.r (b + 0), .r (b + 1), .r (b + 2), .r (b + 3), .r (b + 4), .r (b + 6), .r (b + 7), .r (b + 8), .r (b + 9), .r (b + 12), .r (b + 13), .r (b + 14), .r (b + 15), .r (b + 16)],
  .exc "LimitExceeded" [("limit", .d (.int (n + 1)))],
  .exc "NoFault" [("kind", s), ("name", .d (.str nm))],
  .exc "NoPart" [("value", s)],
  .exc "NoSlot" [("slot", s)],
  .exc "NoStanding" [],
  .lst [.r (b + 19), .r (b + 20), .r (b + 21), .r (b + 22), .r (b + 23)],
  .lst [.r (b + 0), .r (b + 1), .r (b + 2), .r (b + 3), .r (b + 4), .r (b + 6), .r (b + 7), .r (b + 8), .r (b + 9), .r (b + 12), .r (b + 13), .r (b + 14), .r (b + 15), .r (b + 16), .r (b + 19), .r (b + 20), .r (b + 21), .r (b + 22), .r (b + 23)],
  .exc "NotComparable" [("part", .d (.str nm))],
  .exc "NotSaved" [],
  .exc "NothingToRedo" [],
  .exc "NothingToUndo" [],
  .lst [.r (b + 26), .r (b + 27), .r (b + 28), .r (b + 29)],
  .lst [.r (b + 0), .r (b + 1), .r (b + 2), .r (b + 3), .r (b + 4), .r (b + 6), .r (b + 7), .r (b + 8), .r (b + 9), .r (b + 12), .r (b + 13), .r (b + 14), .r (b + 15), .r (b + 16), .r (b + 19), .r (b + 20), .r (b + 21), .r (b + 22), .r (b + 23), .r (b + 26), .r (b + 27), .r (b + 28), .r (b + 29)]]
def OFF : List Nat := [0, 1, 2, 3, 4, 6, 7, 8, 9, 12, 13, 14, 15, 16, 19, 20, 21, 22, 23, 26, 27, 28, 29]
def madeL (b : Nat) : List W := OFF.map fun i => .r (b + i)
theorem madeU_at (b : Nat) (s : W) (n : Int) (pa : List D) (nm : Txt) : ∀ i, i < 23 → ∃ x, (EX s n pa nm)[i]? = some x ∧ x.1 = NS.getD i "" ∧ (madeU b s n pa nm)[OFF.getD i 0]? = some (.exc x.1 x.2) := by
  intro i hi
  have : i = 0 ∨ i = 1 ∨ i = 2 ∨ i = 3 ∨ i = 4 ∨ i = 5 ∨ i = 6 ∨ i = 7 ∨ i = 8 ∨ i = 9 ∨ i = 10 ∨ i = 11 ∨ i = 12 ∨ i = 13 ∨ i = 14 ∨ i = 15 ∨ i = 16 ∨ i = 17 ∨ i = 18 ∨ i = 19 ∨ i = 20 ∨ i = 21 ∨ i = 22 := by omega
  rcases this with rfl | rfl | rfl | rfl | rfl | rfl | rfl | rfl | rfl | rfl | rfl | rfl | rfl | rfl | rfl | rfl | rfl | rfl | rfl | rfl | rfl | rfl | rfl <;> exact ⟨_, rfl, rfl, rfl⟩
theorem fin_refs {S' : Store} {m a : Nat} {l : List W} (h1 : S'.take S.length = S) (h2 : S.length ≤ m) (h3 : S'[m]? = some (.lst (.r a :: l))) : fin S (.ok (.rt (.r m)) S') = .ok (.r m) S' := by
  have ho : old S.length S' S = some S := by simp [old, h1]
  simp [fin, gcW, ho, Nat.not_lt.mpr h2, h3, toD]
/-- the end of a call that hands back a new list of any values -/
theorem fin_any {T : Store} {j : Nat} {l : List W} (h : T[j]? = some (.lst l)) : ∃ m U, fin S (.ok (.rt (.r (S.length + j))) (S ++ T)) = .ok (.r m) (S ++ U) ∧ (S ++ U)[m]? = some (.lst l) := by
  cases hd : toD l with
  | none =>
    refine ⟨S.length + j, T, ?_, by simp [h]⟩
    have h3 : (S ++ T)[S.length + j]? = some (.lst l) := by simp [h]
    have hn : ¬ (S.length + j < S.length) := by omega
    simp [fin, gcW, h3, hd, h, hn]
  | some ds => exact ⟨S.length, [.lst l], fin_lst (by simp) (by omega) (by simp [h]) (by simp [hd]), by simp⟩
theorem made_ok (s : W) (n : Int) (pa : List D) (nm : Txt) : run P fuel (k + 1) "" "_law_made" [s, .d (.int n), .d (.tup pa), .d (.str nm)] S = .ok (.r (S.length + 31)) (S ++ madeU S.length s n pa nm) := by
  have x0 : P.exns.lookup "BadDeed" = some ["deed"] := rfl
  have x1 : P.exns.lookup "BadFault" = some ["fault"] := rfl
  have x2 : P.exns.lookup "BadJournal" = some ["index"] := rfl
  have x3 : P.exns.lookup "BatchRefused" = some ["index"] := rfl
  have x4 : P.exns.lookup "InvalidApp" = some ["part", "path"] := rfl
  have x5 : P.exns.lookup "InvalidBound" = some ["value"] := rfl
  have x6 : P.exns.lookup "InvalidChange" = some ["index"] := rfl
  have x7 : P.exns.lookup "InvalidExpr" = some ["path"] := rfl
  have x8 : P.exns.lookup "InvalidKind" = some ["kind"] := rfl
  have x9 : P.exns.lookup "InvalidParts" = some ["index"] := rfl
  have x10 : P.exns.lookup "InvalidRule" = some ["part"] := rfl
  have x11 : P.exns.lookup "InvalidRules" = some [] := rfl
  have x12 : P.exns.lookup "InvalidText" = some ["line"] := rfl
  have x13 : P.exns.lookup "InvalidWindows" = some ["part"] := rfl
  have x14 : P.exns.lookup "LimitExceeded" = some ["limit"] := rfl
  have x15 : P.exns.lookup "NoFault" = some ["kind", "name"] := rfl
  have x16 : P.exns.lookup "NoPart" = some ["value"] := rfl
  have x17 : P.exns.lookup "NoSlot" = some ["slot"] := rfl
  have x18 : P.exns.lookup "NoStanding" = some [] := rfl
  have x19 : P.exns.lookup "NotComparable" = some ["part"] := rfl
  have x20 : P.exns.lookup "NotSaved" = some [] := rfl
  have x21 : P.exns.lookup "NothingToRedo" = some [] := rfl
  have x22 : P.exns.lookup "NothingToUndo" = some [] := rfl
  rw [run__law_made]
  have hS : dS (P.cx fuel (run P fuel k)) f__law_made.body [some s, some (.d (.int n)), some (.d (.tup pa)), some (.d (.str nm)), none] S = .ok (.rt (.r (S.length + 31))) (S ++ madeU S.length s n pa nm) := by
    (simp -implicitDefEqProofs -dsimp [dS_seq, dS_for, dS_while, dX_lc, dL_lc, dS.eq_1, dS.eq_3, dS.eq_4, dS.eq_5, dS.eq_6, dS.eq_7, dS.eq_8, dS.eq_9, dS.eq_12, dS.eq_13, dS.eq_14, dS.eq_15, dS.eq_16, dX.eq_1, dX.eq_2, dX.eq_3, dX.eq_4, dX.eq_5, dX.eq_6, dX.eq_7, dX.eq_8, dX.eq_9, dX.eq_10, dX.eq_11, dX.eq_12, dX.eq_13, dX.eq_14, dX.eq_15, dX.eq_16, dX.eq_17, dX.eq_18, dX.eq_20, dX.eq_21, dX.eq_22, dX.eq_23, dX.eq_24, dX.eq_25, dX.eq_26, dX.eq_27, dX.eq_28, dX.eq_29, dX.eq_30, dX.eq_31, dL.eq_1, dEs.eq_1, dEs.eq_2, dEs.eq_3, dTs.eq_1, dTs.eq_2, dTs.eq_3, dFs.eq_1, dFs.eq_2, dFs.eq_3, dI.eq_1, dI.eq_2, dI.eq_3, dI.eq_4, dI.eq_5, dI.eq_6, dT.eq_def, op1.eq_def, op2.eq_def, cmpI.eq_def, isCall.eq_def, isCall2.eq_def, recv.eq_def, in_chr, in_strtup, in_inttup, in_nontup, in_bltup, eqW_d, eqW_r, truth.eq_def, isiW.eq_def, walkW.eq_def, pairW.eq_def, isStr.eq_def, isLst.eq_def, recvM.eq_def, List.lookup.eq_1, List.lookup.eq_2, seqOf.eq_def, extOf.eq_def, dseq.eq_def, slW.eq_def, part.eq_def, isNone.eq_def, fmt.eq_def, augW.eq_def, newL.eq_def, blR.eq_def, Guard.ok.eq_1, Guard.ok.eq_2, Ev.R.opt.eq_def, attW.eq_def, Function.comp_def, enumW_map, toD.eq_1, toD.eq_2, toD.eq_3, Ev.D.datL.eq_1, Ev.D.datL.eq_2, Ev.D.dat.eq_1, Ev.D.dat.eq_2, Ev.D.dat.eq_3, Ev.D.dat.eq_4, Ev.D.dat.eq_5, Ev.D.dat.eq_6, Ev.D.dat.eq_7, Ev.D.dat.eq_8, TV.put.eq_1, TV.put.eq_2, TV.put.eq_3, Ev.T.put.eq_1, Ev.T.put.eq_2, Ev.T.put.eq_3, Ev.T.putL.eq_1, Ev.T.putL.eq_2, Ev.T.putL.eq_3, Ev.T.ix.eq_1, Ev.T.ix.eq_2, Ev.T.ixL.eq_1, Ev.T.ixL.eq_2, forget.eq_1, forget.eq_2, ixN.eq_def, f__law_made.eq_1, x0, x1, x2, x3, x4, x5, x6, x7, x8, x9, x10, x11, x12, x13, x14, x15, x16, x17, x18, x19, x20, x21, x22, madeU]; (repeat rw [if_pos (by first | omega | (unfold LINE; omega) | (unfold LINE at *; omega))]); all_goals (first | rfl | exact ⟨rfl, rfl⟩ | exact ⟨rfl, rfl, rfl⟩ | exact ⟨rfl, rfl, rfl, rfl⟩ | (simp; done) | (unfold LINE; omega) | (unfold LINE at *; omega) | fail))
  rw [hS]
  exact fin_refs (a := S.length + 0) (l := (madeL S.length).tail) (by simp) (by omega) (by simp [madeU, madeL, OFF])
def dueL (s : W) (n : Int) (pa : List D) (nm : Txt) : List W := [s, s, .d (.int n), .d (.int n), .d (.str nm), .d (.tup pa), s, .d (.int n), .d (.tup pa), s, .d (.int n), .d (.str nm), .d (.int n), .d (.str nm), .d (.int (n + 1)), s, .d (.str nm), s, s, .d (.str nm)]
theorem fields_ok {m : Nat} {ref : Nat → Nat} {s : W} {n : Int} {pa : List D} {nm : Txt} (hm : S[m]? = some (.lst ((List.range 23).map fun i => .r (ref i)))) (H : ∀ i x, (EX s n pa nm)[i]? = some x → S[ref i]? = some (.exc x.1 x.2)) :
    ∃ m2 U, run P fuel (k + 1) "" "_law_fields" [.r m] S = .ok (.r m2) (S ++ U) ∧ (S ++ U)[m2]? = some (.lst (dueL s n pa nm)) := by
  have a0 : ∀ call V, attW (P.cx fuel call).fld (P.cx fuel call).fldX (.r (ref 0)) "deed" (S ++ V) = some (s) := fun call V => by rw [attW, get_left (H 0 _ rfl)]; rfl
  have a1 : ∀ call V, attW (P.cx fuel call).fld (P.cx fuel call).fldX (.r (ref 1)) "fault" (S ++ V) = some (s) := fun call V => by rw [attW, get_left (H 1 _ rfl)]; rfl
  have a2 : ∀ call V, attW (P.cx fuel call).fld (P.cx fuel call).fldX (.r (ref 2)) "index" (S ++ V) = some (.d (.int n)) := fun call V => by rw [attW, get_left (H 2 _ rfl)]; rfl
  have a3 : ∀ call V, attW (P.cx fuel call).fld (P.cx fuel call).fldX (.r (ref 3)) "index" (S ++ V) = some (.d (.int n)) := fun call V => by rw [attW, get_left (H 3 _ rfl)]; rfl
  have a4 : ∀ call V, attW (P.cx fuel call).fld (P.cx fuel call).fldX (.r (ref 4)) "part" (S ++ V) = some (.d (.str nm)) := fun call V => by rw [attW, get_left (H 4 _ rfl)]; rfl
  have a5 : ∀ call V, attW (P.cx fuel call).fld (P.cx fuel call).fldX (.r (ref 4)) "path" (S ++ V) = some (.d (.tup pa)) := fun call V => by rw [attW, get_left (H 4 _ rfl)]; rfl
  have a6 : ∀ call V, attW (P.cx fuel call).fld (P.cx fuel call).fldX (.r (ref 5)) "value" (S ++ V) = some (s) := fun call V => by rw [attW, get_left (H 5 _ rfl)]; rfl
  have a7 : ∀ call V, attW (P.cx fuel call).fld (P.cx fuel call).fldX (.r (ref 6)) "index" (S ++ V) = some (.d (.int n)) := fun call V => by rw [attW, get_left (H 6 _ rfl)]; rfl
  have a8 : ∀ call V, attW (P.cx fuel call).fld (P.cx fuel call).fldX (.r (ref 7)) "path" (S ++ V) = some (.d (.tup pa)) := fun call V => by rw [attW, get_left (H 7 _ rfl)]; rfl
  have a9 : ∀ call V, attW (P.cx fuel call).fld (P.cx fuel call).fldX (.r (ref 8)) "kind" (S ++ V) = some (s) := fun call V => by rw [attW, get_left (H 8 _ rfl)]; rfl
  have a10 : ∀ call V, attW (P.cx fuel call).fld (P.cx fuel call).fldX (.r (ref 9)) "index" (S ++ V) = some (.d (.int n)) := fun call V => by rw [attW, get_left (H 9 _ rfl)]; rfl
  have a11 : ∀ call V, attW (P.cx fuel call).fld (P.cx fuel call).fldX (.r (ref 10)) "part" (S ++ V) = some (.d (.str nm)) := fun call V => by rw [attW, get_left (H 10 _ rfl)]; rfl
  have a12 : ∀ call V, attW (P.cx fuel call).fld (P.cx fuel call).fldX (.r (ref 12)) "line" (S ++ V) = some (.d (.int n)) := fun call V => by rw [attW, get_left (H 12 _ rfl)]; rfl
  have a13 : ∀ call V, attW (P.cx fuel call).fld (P.cx fuel call).fldX (.r (ref 13)) "part" (S ++ V) = some (.d (.str nm)) := fun call V => by rw [attW, get_left (H 13 _ rfl)]; rfl
  have a14 : ∀ call V, attW (P.cx fuel call).fld (P.cx fuel call).fldX (.r (ref 14)) "limit" (S ++ V) = some (.d (.int (n + 1))) := fun call V => by rw [attW, get_left (H 14 _ rfl)]; rfl
  have a15 : ∀ call V, attW (P.cx fuel call).fld (P.cx fuel call).fldX (.r (ref 15)) "kind" (S ++ V) = some (s) := fun call V => by rw [attW, get_left (H 15 _ rfl)]; rfl
  have a16 : ∀ call V, attW (P.cx fuel call).fld (P.cx fuel call).fldX (.r (ref 15)) "name" (S ++ V) = some (.d (.str nm)) := fun call V => by rw [attW, get_left (H 15 _ rfl)]; rfl
  have a17 : ∀ call V, attW (P.cx fuel call).fld (P.cx fuel call).fldX (.r (ref 16)) "value" (S ++ V) = some (s) := fun call V => by rw [attW, get_left (H 16 _ rfl)]; rfl
  have a18 : ∀ call V, attW (P.cx fuel call).fld (P.cx fuel call).fldX (.r (ref 17)) "slot" (S ++ V) = some (s) := fun call V => by rw [attW, get_left (H 17 _ rfl)]; rfl
  have a19 : ∀ call V, attW (P.cx fuel call).fld (P.cx fuel call).fldX (.r (ref 19)) "part" (S ++ V) = some (.d (.str nm)) := fun call V => by rw [attW, get_left (H 19 _ rfl)]; rfl
  have b0 : ∀ call, attW (P.cx fuel call).fld (P.cx fuel call).fldX (.r (ref 0)) "deed" S = some (s) := fun call => by rw [attW, H 0 _ rfl]; rfl
  have b1 : ∀ call, attW (P.cx fuel call).fld (P.cx fuel call).fldX (.r (ref 1)) "fault" S = some (s) := fun call => by rw [attW, H 1 _ rfl]; rfl
  have b2 : ∀ call, attW (P.cx fuel call).fld (P.cx fuel call).fldX (.r (ref 2)) "index" S = some (.d (.int n)) := fun call => by rw [attW, H 2 _ rfl]; rfl
  have b3 : ∀ call, attW (P.cx fuel call).fld (P.cx fuel call).fldX (.r (ref 3)) "index" S = some (.d (.int n)) := fun call => by rw [attW, H 3 _ rfl]; rfl
  have b4 : ∀ call, attW (P.cx fuel call).fld (P.cx fuel call).fldX (.r (ref 4)) "part" S = some (.d (.str nm)) := fun call => by rw [attW, H 4 _ rfl]; rfl
  have b5 : ∀ call, attW (P.cx fuel call).fld (P.cx fuel call).fldX (.r (ref 4)) "path" S = some (.d (.tup pa)) := fun call => by rw [attW, H 4 _ rfl]; rfl
  have b6 : ∀ call, attW (P.cx fuel call).fld (P.cx fuel call).fldX (.r (ref 5)) "value" S = some (s) := fun call => by rw [attW, H 5 _ rfl]; rfl
  have i0 : ∀ V, op2 .idx (.r m) (.d (.int 0)) (S ++ V) = .ok (.r (ref 0)) (S ++ V) := fun V => idx_lst (i := 0) (get_left hm V) rfl
  have i1 : ∀ V, op2 .idx (.r m) (.d (.int 1)) (S ++ V) = .ok (.r (ref 1)) (S ++ V) := fun V => idx_lst (i := 1) (get_left hm V) rfl
  have i2 : ∀ V, op2 .idx (.r m) (.d (.int 2)) (S ++ V) = .ok (.r (ref 2)) (S ++ V) := fun V => idx_lst (i := 2) (get_left hm V) rfl
  have i3 : ∀ V, op2 .idx (.r m) (.d (.int 3)) (S ++ V) = .ok (.r (ref 3)) (S ++ V) := fun V => idx_lst (i := 3) (get_left hm V) rfl
  have i4 : ∀ V, op2 .idx (.r m) (.d (.int 4)) (S ++ V) = .ok (.r (ref 4)) (S ++ V) := fun V => idx_lst (i := 4) (get_left hm V) rfl
  have i5 : ∀ V, op2 .idx (.r m) (.d (.int 5)) (S ++ V) = .ok (.r (ref 5)) (S ++ V) := fun V => idx_lst (i := 5) (get_left hm V) rfl
  have i6 : ∀ V, op2 .idx (.r m) (.d (.int 6)) (S ++ V) = .ok (.r (ref 6)) (S ++ V) := fun V => idx_lst (i := 6) (get_left hm V) rfl
  have i7 : ∀ V, op2 .idx (.r m) (.d (.int 7)) (S ++ V) = .ok (.r (ref 7)) (S ++ V) := fun V => idx_lst (i := 7) (get_left hm V) rfl
  have i8 : ∀ V, op2 .idx (.r m) (.d (.int 8)) (S ++ V) = .ok (.r (ref 8)) (S ++ V) := fun V => idx_lst (i := 8) (get_left hm V) rfl
  have i9 : ∀ V, op2 .idx (.r m) (.d (.int 9)) (S ++ V) = .ok (.r (ref 9)) (S ++ V) := fun V => idx_lst (i := 9) (get_left hm V) rfl
  have i10 : ∀ V, op2 .idx (.r m) (.d (.int 10)) (S ++ V) = .ok (.r (ref 10)) (S ++ V) := fun V => idx_lst (i := 10) (get_left hm V) rfl
  have i12 : ∀ V, op2 .idx (.r m) (.d (.int 12)) (S ++ V) = .ok (.r (ref 12)) (S ++ V) := fun V => idx_lst (i := 12) (get_left hm V) rfl
  have i13 : ∀ V, op2 .idx (.r m) (.d (.int 13)) (S ++ V) = .ok (.r (ref 13)) (S ++ V) := fun V => idx_lst (i := 13) (get_left hm V) rfl
  have i14 : ∀ V, op2 .idx (.r m) (.d (.int 14)) (S ++ V) = .ok (.r (ref 14)) (S ++ V) := fun V => idx_lst (i := 14) (get_left hm V) rfl
  have i15 : ∀ V, op2 .idx (.r m) (.d (.int 15)) (S ++ V) = .ok (.r (ref 15)) (S ++ V) := fun V => idx_lst (i := 15) (get_left hm V) rfl
  have i16 : ∀ V, op2 .idx (.r m) (.d (.int 16)) (S ++ V) = .ok (.r (ref 16)) (S ++ V) := fun V => idx_lst (i := 16) (get_left hm V) rfl
  have i17 : ∀ V, op2 .idx (.r m) (.d (.int 17)) (S ++ V) = .ok (.r (ref 17)) (S ++ V) := fun V => idx_lst (i := 17) (get_left hm V) rfl
  have i19 : ∀ V, op2 .idx (.r m) (.d (.int 19)) (S ++ V) = .ok (.r (ref 19)) (S ++ V) := fun V => idx_lst (i := 19) (get_left hm V) rfl
  have j0 : op2 .idx (.r m) (.d (.int 0)) S = .ok (.r (ref 0)) S := idx_lst (i := 0) hm rfl
  have j1 : op2 .idx (.r m) (.d (.int 1)) S = .ok (.r (ref 1)) S := idx_lst (i := 1) hm rfl
  have j2 : op2 .idx (.r m) (.d (.int 2)) S = .ok (.r (ref 2)) S := idx_lst (i := 2) hm rfl
  have j3 : op2 .idx (.r m) (.d (.int 3)) S = .ok (.r (ref 3)) S := idx_lst (i := 3) hm rfl
  have j4 : op2 .idx (.r m) (.d (.int 4)) S = .ok (.r (ref 4)) S := idx_lst (i := 4) hm rfl
  have j5 : op2 .idx (.r m) (.d (.int 5)) S = .ok (.r (ref 5)) S := idx_lst (i := 5) hm rfl
  have hS : ∃ T, dS (P.cx fuel (run P fuel k)) f__law_fields.body [some (.r m), none] S = .ok (.rt (.r (S.length + 6))) (S ++ T) ∧ T[6]? = some (.lst (dueL s n pa nm)) := by
    exact ⟨_, by (simp -implicitDefEqProofs -dsimp [dS_seq, dS_for, dS_while, dX_lc, dL_lc, dS.eq_1, dS.eq_3, dS.eq_4, dS.eq_5, dS.eq_6, dS.eq_7, dS.eq_8, dS.eq_9, dS.eq_12, dS.eq_13, dS.eq_14, dS.eq_15, dS.eq_16, dX.eq_1, dX.eq_2, dX.eq_3, dX.eq_4, dX.eq_5, dX.eq_6, dX.eq_7, dX.eq_8, dX.eq_9, dX.eq_10, dX.eq_11, dX.eq_12, dX.eq_13, dX.eq_14, dX.eq_15, dX.eq_16, dX.eq_17, dX.eq_18, dX.eq_20, dX.eq_21, dX.eq_22, dX.eq_23, dX.eq_24, dX.eq_25, dX.eq_26, dX.eq_27, dX.eq_28, dX.eq_29, dX.eq_30, dX.eq_31, dL.eq_1, dEs.eq_1, dEs.eq_2, dEs.eq_3, dTs.eq_1, dTs.eq_2, dTs.eq_3, dFs.eq_1, dFs.eq_2, dFs.eq_3, dI.eq_1, dI.eq_2, dI.eq_3, dI.eq_4, dI.eq_5, dI.eq_6, dT.eq_def, op1.eq_def, op2.eq_def, cmpI.eq_def, isCall.eq_def, isCall2.eq_def, recv.eq_def, in_chr, in_strtup, in_inttup, in_nontup, in_bltup, eqW_d, eqW_r, truth.eq_def, isiW.eq_def, walkW.eq_def, pairW.eq_def, isStr.eq_def, isLst.eq_def, recvM.eq_def, List.lookup.eq_1, List.lookup.eq_2, seqOf.eq_def, extOf.eq_def, dseq.eq_def, slW.eq_def, part.eq_def, isNone.eq_def, fmt.eq_def, augW.eq_def, newL.eq_def, blR.eq_def, Guard.ok.eq_1, Guard.ok.eq_2, Ev.R.opt.eq_def, attW.eq_def, Function.comp_def, enumW_map, toD.eq_1, toD.eq_2, toD.eq_3, Ev.D.datL.eq_1, Ev.D.datL.eq_2, Ev.D.dat.eq_1, Ev.D.dat.eq_2, Ev.D.dat.eq_3, Ev.D.dat.eq_4, Ev.D.dat.eq_5, Ev.D.dat.eq_6, Ev.D.dat.eq_7, Ev.D.dat.eq_8, TV.put.eq_1, TV.put.eq_2, TV.put.eq_3, Ev.T.put.eq_1, Ev.T.put.eq_2, Ev.T.put.eq_3, Ev.T.putL.eq_1, Ev.T.putL.eq_2, Ev.T.putL.eq_3, Ev.T.ix.eq_1, Ev.T.ix.eq_2, Ev.T.ixL.eq_1, Ev.T.ixL.eq_2, forget.eq_1, forget.eq_2, ixN.eq_def, f__law_fields.eq_1, ↓a0, ↓a1, ↓a2, ↓a3, ↓a4, ↓a5, ↓a6, ↓a7, ↓a8, ↓a9, ↓a10, ↓a11, ↓a12, ↓a13, ↓a14, ↓a15, ↓a16, ↓a17, ↓a18, ↓a19, ↓b0, ↓b1, ↓b2, ↓b3, ↓b4, ↓b5, ↓b6, ↓i0, ↓i1, ↓i2, ↓i3, ↓i4, ↓i5, ↓i6, ↓i7, ↓i8, ↓i9, ↓i10, ↓i12, ↓i13, ↓i14, ↓i15, ↓i16, ↓i17, ↓i19, ↓j0, ↓j1, ↓j2, ↓j3, ↓j4, ↓j5]; (repeat rw [if_pos (by first | omega | (unfold LINE; omega) | (unfold LINE at *; omega))]); all_goals (first | rfl | exact ⟨rfl, rfl⟩ | exact ⟨rfl, rfl, rfl⟩ | exact ⟨rfl, rfl, rfl, rfl⟩ | (simp; done) | (unfold LINE; omega) | (unfold LINE at *; omega) | fail)), rfl⟩
  obtain ⟨T, hS, hT⟩ := hS
  rw [run__law_fields, hS]
  exact fin_any hT
theorem due_ok {s : W} {n : Int} {pa : List D} {nm : Txt} : ∃ m2 U, run P fuel (k + 1) "" "_law_due" [s, .d (.int n), .d (.tup pa), .d (.str nm)] S = .ok (.r m2) (S ++ U) ∧ (S ++ U)[m2]? = some (.lst (dueL s n pa nm)) := by
  have hS : ∃ T, dS (P.cx fuel (run P fuel k)) f__law_due.body [some s, some (.d (.int n)), some (.d (.tup pa)), some (.d (.str nm)), none] S = .ok (.rt (.r (S.length + 2))) (S ++ T) ∧ T[2]? = some (.lst (dueL s n pa nm)) := by
    exact ⟨_, by (simp -implicitDefEqProofs -dsimp [dS_seq, dS_for, dS_while, dX_lc, dL_lc, dS.eq_1, dS.eq_3, dS.eq_4, dS.eq_5, dS.eq_6, dS.eq_7, dS.eq_8, dS.eq_9, dS.eq_12, dS.eq_13, dS.eq_14, dS.eq_15, dS.eq_16, dX.eq_1, dX.eq_2, dX.eq_3, dX.eq_4, dX.eq_5, dX.eq_6, dX.eq_7, dX.eq_8, dX.eq_9, dX.eq_10, dX.eq_11, dX.eq_12, dX.eq_13, dX.eq_14, dX.eq_15, dX.eq_16, dX.eq_17, dX.eq_18, dX.eq_20, dX.eq_21, dX.eq_22, dX.eq_23, dX.eq_24, dX.eq_25, dX.eq_26, dX.eq_27, dX.eq_28, dX.eq_29, dX.eq_30, dX.eq_31, dL.eq_1, dEs.eq_1, dEs.eq_2, dEs.eq_3, dTs.eq_1, dTs.eq_2, dTs.eq_3, dFs.eq_1, dFs.eq_2, dFs.eq_3, dI.eq_1, dI.eq_2, dI.eq_3, dI.eq_4, dI.eq_5, dI.eq_6, dT.eq_def, op1.eq_def, op2.eq_def, cmpI.eq_def, isCall.eq_def, isCall2.eq_def, recv.eq_def, in_chr, in_strtup, in_inttup, in_nontup, in_bltup, eqW_d, eqW_r, truth.eq_def, isiW.eq_def, walkW.eq_def, pairW.eq_def, isStr.eq_def, isLst.eq_def, recvM.eq_def, List.lookup.eq_1, List.lookup.eq_2, seqOf.eq_def, extOf.eq_def, dseq.eq_def, slW.eq_def, part.eq_def, isNone.eq_def, fmt.eq_def, augW.eq_def, newL.eq_def, blR.eq_def, Guard.ok.eq_1, Guard.ok.eq_2, Ev.R.opt.eq_def, attW.eq_def, Function.comp_def, enumW_map, toD.eq_1, toD.eq_2, toD.eq_3, Ev.D.datL.eq_1, Ev.D.datL.eq_2, Ev.D.dat.eq_1, Ev.D.dat.eq_2, Ev.D.dat.eq_3, Ev.D.dat.eq_4, Ev.D.dat.eq_5, Ev.D.dat.eq_6, Ev.D.dat.eq_7, Ev.D.dat.eq_8, TV.put.eq_1, TV.put.eq_2, TV.put.eq_3, Ev.T.put.eq_1, Ev.T.put.eq_2, Ev.T.put.eq_3, Ev.T.putL.eq_1, Ev.T.putL.eq_2, Ev.T.putL.eq_3, Ev.T.ix.eq_1, Ev.T.ix.eq_2, Ev.T.ixL.eq_1, Ev.T.ixL.eq_2, forget.eq_1, forget.eq_2, ixN.eq_def, f__law_due.eq_1]; (repeat rw [if_pos (by first | omega | (unfold LINE; omega) | (unfold LINE at *; omega))]); all_goals (first | rfl | exact ⟨rfl, rfl⟩ | exact ⟨rfl, rfl, rfl⟩ | exact ⟨rfl, rfl, rfl, rfl⟩ | (simp; done) | (unfold LINE; omega) | (unfold LINE at *; omega) | fail)), rfl⟩
  obtain ⟨T, hS, hT⟩ := hS
  rw [run__law_due, hS]
  exact fin_any hT
end Ev
end

section
set_option linter.all false
set_option autoImplicit false
set_option maxHeartbeats 4000000
/-! EN9: what is the same; what is raised. -/
namespace Ev
variable {fuel k : Nat} {S : Store}
/-- at depth k it is the same as itself -/
def Same (fuel k : Nat) (S : Store) (w : W) : Prop := run P fuel k "" "_law_same" [w, w] S = .ok (.d (.bl true)) S
theorem same_str (a : Txt) : Same fuel (k + 1) S (.d (.str a)) := by
  unfold Same
  rw [run__law_same]
  (simp -implicitDefEqProofs -dsimp [dS_seq, dS_for, dS_while, dX_lc, dL_lc, dS.eq_1, dS.eq_3, dS.eq_4, dS.eq_5, dS.eq_6, dS.eq_7, dS.eq_8, dS.eq_9, dS.eq_12, dS.eq_13, dS.eq_14, dS.eq_15, dS.eq_16, dX.eq_1, dX.eq_2, dX.eq_3, dX.eq_4, dX.eq_5, dX.eq_6, dX.eq_7, dX.eq_8, dX.eq_9, dX.eq_10, dX.eq_11, dX.eq_12, dX.eq_13, dX.eq_14, dX.eq_15, dX.eq_16, dX.eq_17, dX.eq_18, dX.eq_20, dX.eq_21, dX.eq_22, dX.eq_23, dX.eq_24, dX.eq_25, dX.eq_26, dX.eq_27, dX.eq_28, dX.eq_29, dX.eq_30, dX.eq_31, dL.eq_1, dEs.eq_1, dEs.eq_2, dEs.eq_3, dTs.eq_1, dTs.eq_2, dTs.eq_3, dFs.eq_1, dFs.eq_2, dFs.eq_3, dI.eq_1, dI.eq_2, dI.eq_3, dI.eq_4, dI.eq_5, dI.eq_6, dT.eq_def, op1.eq_def, op2.eq_def, cmpI.eq_def, isCall.eq_def, isCall2.eq_def, recv.eq_def, in_chr, in_strtup, in_inttup, in_nontup, in_bltup, eqW_d, eqW_r, truth.eq_def, isiW.eq_def, walkW.eq_def, pairW.eq_def, isStr.eq_def, isLst.eq_def, recvM.eq_def, List.lookup.eq_1, List.lookup.eq_2, seqOf.eq_def, extOf.eq_def, dseq.eq_def, slW.eq_def, part.eq_def, isNone.eq_def, fmt.eq_def, augW.eq_def, newL.eq_def, blR.eq_def, Guard.ok.eq_1, Guard.ok.eq_2, Ev.R.opt.eq_def, attW.eq_def, Function.comp_def, enumW_map, toD.eq_1, toD.eq_2, toD.eq_3, Ev.D.datL.eq_1, Ev.D.datL.eq_2, Ev.D.dat.eq_1, Ev.D.dat.eq_2, Ev.D.dat.eq_3, Ev.D.dat.eq_4, Ev.D.dat.eq_5, Ev.D.dat.eq_6, Ev.D.dat.eq_7, Ev.D.dat.eq_8, TV.put.eq_1, TV.put.eq_2, TV.put.eq_3, Ev.T.put.eq_1, Ev.T.put.eq_2, Ev.T.put.eq_3, Ev.T.putL.eq_1, Ev.T.putL.eq_2, Ev.T.putL.eq_3, Ev.T.ix.eq_1, Ev.T.ix.eq_2, Ev.T.ixL.eq_1, Ev.T.ixL.eq_2, forget.eq_1, forget.eq_2, ixN.eq_def, Ev.T.tup.eq_def, f__law_same.eq_1]; (repeat rw [if_pos (by first | omega | (unfold LINE; omega) | (unfold LINE at *; omega))]); all_goals (first | rfl | exact ⟨rfl, rfl⟩ | exact ⟨rfl, rfl, rfl⟩ | exact ⟨rfl, rfl, rfl, rfl⟩ | (simp; done) | (unfold LINE; omega) | (unfold LINE at *; omega) | fail))
theorem same_int (a : Int) : Same fuel (k + 1) S (.d (.int a)) := by
  unfold Same
  have t1 : (Ty.bool == Ty.int) = false := rfl
  rw [run__law_same]
  (simp -implicitDefEqProofs -dsimp [dS_seq, dS_for, dS_while, dX_lc, dL_lc, dS.eq_1, dS.eq_3, dS.eq_4, dS.eq_5, dS.eq_6, dS.eq_7, dS.eq_8, dS.eq_9, dS.eq_12, dS.eq_13, dS.eq_14, dS.eq_15, dS.eq_16, dX.eq_1, dX.eq_2, dX.eq_3, dX.eq_4, dX.eq_5, dX.eq_6, dX.eq_7, dX.eq_8, dX.eq_9, dX.eq_10, dX.eq_11, dX.eq_12, dX.eq_13, dX.eq_14, dX.eq_15, dX.eq_16, dX.eq_17, dX.eq_18, dX.eq_20, dX.eq_21, dX.eq_22, dX.eq_23, dX.eq_24, dX.eq_25, dX.eq_26, dX.eq_27, dX.eq_28, dX.eq_29, dX.eq_30, dX.eq_31, dL.eq_1, dEs.eq_1, dEs.eq_2, dEs.eq_3, dTs.eq_1, dTs.eq_2, dTs.eq_3, dFs.eq_1, dFs.eq_2, dFs.eq_3, dI.eq_1, dI.eq_2, dI.eq_3, dI.eq_4, dI.eq_5, dI.eq_6, dT.eq_def, op1.eq_def, op2.eq_def, cmpI.eq_def, isCall.eq_def, isCall2.eq_def, recv.eq_def, in_chr, in_strtup, in_inttup, in_nontup, in_bltup, eqW_d, eqW_r, truth.eq_def, isiW.eq_def, walkW.eq_def, pairW.eq_def, isStr.eq_def, isLst.eq_def, recvM.eq_def, List.lookup.eq_1, List.lookup.eq_2, seqOf.eq_def, extOf.eq_def, dseq.eq_def, slW.eq_def, part.eq_def, isNone.eq_def, fmt.eq_def, augW.eq_def, newL.eq_def, blR.eq_def, Guard.ok.eq_1, Guard.ok.eq_2, Ev.R.opt.eq_def, attW.eq_def, Function.comp_def, enumW_map, toD.eq_1, toD.eq_2, toD.eq_3, Ev.D.datL.eq_1, Ev.D.datL.eq_2, Ev.D.dat.eq_1, Ev.D.dat.eq_2, Ev.D.dat.eq_3, Ev.D.dat.eq_4, Ev.D.dat.eq_5, Ev.D.dat.eq_6, Ev.D.dat.eq_7, Ev.D.dat.eq_8, TV.put.eq_1, TV.put.eq_2, TV.put.eq_3, Ev.T.put.eq_1, Ev.T.put.eq_2, Ev.T.put.eq_3, Ev.T.putL.eq_1, Ev.T.putL.eq_2, Ev.T.putL.eq_3, Ev.T.ix.eq_1, Ev.T.ix.eq_2, Ev.T.ixL.eq_1, Ev.T.ixL.eq_2, forget.eq_1, forget.eq_2, ixN.eq_def, Ev.T.tup.eq_def, f__law_same.eq_1, t1]; (repeat rw [if_pos (by first | omega | (unfold LINE; omega) | (unfold LINE at *; omega))]); all_goals (first | rfl | exact ⟨rfl, rfl⟩ | exact ⟨rfl, rfl, rfl⟩ | exact ⟨rfl, rfl, rfl, rfl⟩ | (simp; done) | (unfold LINE; omega) | (unfold LINE at *; omega) | fail))
theorem same_bl (a : Bool) : Same fuel (k + 1) S (.d (.bl a)) := by
  unfold Same
  rw [run__law_same]
  cases a <;> (simp -implicitDefEqProofs -dsimp [dS_seq, dS_for, dS_while, dX_lc, dL_lc, dS.eq_1, dS.eq_3, dS.eq_4, dS.eq_5, dS.eq_6, dS.eq_7, dS.eq_8, dS.eq_9, dS.eq_12, dS.eq_13, dS.eq_14, dS.eq_15, dS.eq_16, dX.eq_1, dX.eq_2, dX.eq_3, dX.eq_4, dX.eq_5, dX.eq_6, dX.eq_7, dX.eq_8, dX.eq_9, dX.eq_10, dX.eq_11, dX.eq_12, dX.eq_13, dX.eq_14, dX.eq_15, dX.eq_16, dX.eq_17, dX.eq_18, dX.eq_20, dX.eq_21, dX.eq_22, dX.eq_23, dX.eq_24, dX.eq_25, dX.eq_26, dX.eq_27, dX.eq_28, dX.eq_29, dX.eq_30, dX.eq_31, dL.eq_1, dEs.eq_1, dEs.eq_2, dEs.eq_3, dTs.eq_1, dTs.eq_2, dTs.eq_3, dFs.eq_1, dFs.eq_2, dFs.eq_3, dI.eq_1, dI.eq_2, dI.eq_3, dI.eq_4, dI.eq_5, dI.eq_6, dT.eq_def, op1.eq_def, op2.eq_def, cmpI.eq_def, isCall.eq_def, isCall2.eq_def, recv.eq_def, in_chr, in_strtup, in_inttup, in_nontup, in_bltup, eqW_d, eqW_r, truth.eq_def, isiW.eq_def, walkW.eq_def, pairW.eq_def, isStr.eq_def, isLst.eq_def, recvM.eq_def, List.lookup.eq_1, List.lookup.eq_2, seqOf.eq_def, extOf.eq_def, dseq.eq_def, slW.eq_def, part.eq_def, isNone.eq_def, fmt.eq_def, augW.eq_def, newL.eq_def, blR.eq_def, Guard.ok.eq_1, Guard.ok.eq_2, Ev.R.opt.eq_def, attW.eq_def, Function.comp_def, enumW_map, toD.eq_1, toD.eq_2, toD.eq_3, Ev.D.datL.eq_1, Ev.D.datL.eq_2, Ev.D.dat.eq_1, Ev.D.dat.eq_2, Ev.D.dat.eq_3, Ev.D.dat.eq_4, Ev.D.dat.eq_5, Ev.D.dat.eq_6, Ev.D.dat.eq_7, Ev.D.dat.eq_8, TV.put.eq_1, TV.put.eq_2, TV.put.eq_3, Ev.T.put.eq_1, Ev.T.put.eq_2, Ev.T.put.eq_3, Ev.T.putL.eq_1, Ev.T.putL.eq_2, Ev.T.putL.eq_3, Ev.T.ix.eq_1, Ev.T.ix.eq_2, Ev.T.ixL.eq_1, Ev.T.ixL.eq_2, forget.eq_1, forget.eq_2, ixN.eq_def, Ev.T.tup.eq_def, f__law_same.eq_1, Ev.D.eqv.eq_1, Ev.D.eqv.eq_2, Ev.D.eqv.eq_3, Ev.D.eqv.eq_4, Ev.D.eqv.eq_5, Ev.D.eqv.eq_6, Ev.D.eqv.eq_7, Ev.D.eqv.eq_8]; (repeat rw [if_pos (by first | omega | (unfold LINE; omega) | (unfold LINE at *; omega))]); all_goals (first | rfl | exact ⟨rfl, rfl⟩ | exact ⟨rfl, rfl, rfl⟩ | exact ⟨rfl, rfl, rfl, rfl⟩ | (simp; done) | (unfold LINE; omega) | (unfold LINE at *; omega) | fail))
theorem same_non : Same fuel (k + 1) S (.d .non) := by
  unfold Same
  rw [run__law_same]
  (simp -implicitDefEqProofs -dsimp [dS_seq, dS_for, dS_while, dX_lc, dL_lc, dS.eq_1, dS.eq_3, dS.eq_4, dS.eq_5, dS.eq_6, dS.eq_7, dS.eq_8, dS.eq_9, dS.eq_12, dS.eq_13, dS.eq_14, dS.eq_15, dS.eq_16, dX.eq_1, dX.eq_2, dX.eq_3, dX.eq_4, dX.eq_5, dX.eq_6, dX.eq_7, dX.eq_8, dX.eq_9, dX.eq_10, dX.eq_11, dX.eq_12, dX.eq_13, dX.eq_14, dX.eq_15, dX.eq_16, dX.eq_17, dX.eq_18, dX.eq_20, dX.eq_21, dX.eq_22, dX.eq_23, dX.eq_24, dX.eq_25, dX.eq_26, dX.eq_27, dX.eq_28, dX.eq_29, dX.eq_30, dX.eq_31, dL.eq_1, dEs.eq_1, dEs.eq_2, dEs.eq_3, dTs.eq_1, dTs.eq_2, dTs.eq_3, dFs.eq_1, dFs.eq_2, dFs.eq_3, dI.eq_1, dI.eq_2, dI.eq_3, dI.eq_4, dI.eq_5, dI.eq_6, dT.eq_def, op1.eq_def, op2.eq_def, cmpI.eq_def, isCall.eq_def, isCall2.eq_def, recv.eq_def, in_chr, in_strtup, in_inttup, in_nontup, in_bltup, eqW_d, eqW_r, truth.eq_def, isiW.eq_def, walkW.eq_def, pairW.eq_def, isStr.eq_def, isLst.eq_def, recvM.eq_def, List.lookup.eq_1, List.lookup.eq_2, seqOf.eq_def, extOf.eq_def, dseq.eq_def, slW.eq_def, part.eq_def, isNone.eq_def, fmt.eq_def, augW.eq_def, newL.eq_def, blR.eq_def, Guard.ok.eq_1, Guard.ok.eq_2, Ev.R.opt.eq_def, attW.eq_def, Function.comp_def, enumW_map, toD.eq_1, toD.eq_2, toD.eq_3, Ev.D.datL.eq_1, Ev.D.datL.eq_2, Ev.D.dat.eq_1, Ev.D.dat.eq_2, Ev.D.dat.eq_3, Ev.D.dat.eq_4, Ev.D.dat.eq_5, Ev.D.dat.eq_6, Ev.D.dat.eq_7, Ev.D.dat.eq_8, TV.put.eq_1, TV.put.eq_2, TV.put.eq_3, Ev.T.put.eq_1, Ev.T.put.eq_2, Ev.T.put.eq_3, Ev.T.putL.eq_1, Ev.T.putL.eq_2, Ev.T.putL.eq_3, Ev.T.ix.eq_1, Ev.T.ix.eq_2, Ev.T.ixL.eq_1, Ev.T.ixL.eq_2, forget.eq_1, forget.eq_2, ixN.eq_def, Ev.T.tup.eq_def, f__law_same.eq_1]; (repeat rw [if_pos (by first | omega | (unfold LINE; omega) | (unfold LINE at *; omega))]); all_goals (first | rfl | exact ⟨rfl, rfl⟩ | exact ⟨rfl, rfl, rfl⟩ | exact ⟨rfl, rfl, rfl, rfl⟩ | (simp; done) | (unfold LINE; omega) | (unfold LINE at *; omega) | fail))
theorem zipW_map {α : Type} {f : α → W} : ∀ {l : List α}, zipW (l.map f) (l.map f) = l.map fun x => TV.many [f x, f x]
  | [] => rfl
  | a :: l => by
    have := zipW_map (f := f) (l := l)
    simp only [zipW, List.map_cons, List.zip_cons_cons] at this ⊢
    rw [this]
theorem toBl_true (n : Nat) : toBl (List.replicate n (.bl true)) = some (List.replicate n true) := by
  induction n with
  | zero => rfl
  | succ n ih => simp [List.replicate_succ, toBl, ih]
theorem toD_true (n : Nat) : toD (List.replicate n (W.d (.bl true))) = some (List.replicate n (.bl true)) := by
  induction n with
  | zero => rfl
  | succ n ih => simp [List.replicate_succ, toD, ih]
theorem all_true (n : Nat) : (List.replicate n true).all id = true := by
  induction n <;> simp_all [List.replicate_succ]
theorem map_true {α : Type} (l : List α) : (l.map fun _ => W.d (.bl true)) = (List.replicate l.length (D.bl true)).map W.d := by
  induction l <;> simp_all [List.replicate_succ]
theorem same_tup (l : List D) (hl : l.length ≤ LINE) (h : ∀ d ∈ l, ∀ S, Same fuel (k + 1) S (.d d)) : Same fuel (k + 2) S (.d (.tup l)) := by
  unfold Same at *
  have lp := lc_map (f := lturn (P.cx fuel (run P fuel (k + 1))) f__law_same_c1 (.t [.n 2, .n 3]) .nil [some (.d (.tup l)), some (.d (.tup l)), none, none]) (fun x : D => TV.many [.d x, .d x]) (fun _ => some (.d (.bl true))) [] S rfl l
    (fun x hx => by
      have hh := h x hx S
      (simp -implicitDefEqProofs -dsimp [dS_seq, dS_for, dS_while, dX_lc, dL_lc, dS.eq_1, dS.eq_3, dS.eq_4, dS.eq_5, dS.eq_6, dS.eq_7, dS.eq_8, dS.eq_9, dS.eq_12, dS.eq_13, dS.eq_14, dS.eq_15, dS.eq_16, dX.eq_1, dX.eq_2, dX.eq_3, dX.eq_4, dX.eq_5, dX.eq_6, dX.eq_7, dX.eq_8, dX.eq_9, dX.eq_10, dX.eq_11, dX.eq_12, dX.eq_13, dX.eq_14, dX.eq_15, dX.eq_16, dX.eq_17, dX.eq_18, dX.eq_20, dX.eq_21, dX.eq_22, dX.eq_23, dX.eq_24, dX.eq_25, dX.eq_26, dX.eq_27, dX.eq_28, dX.eq_29, dX.eq_30, dX.eq_31, dL.eq_1, dEs.eq_1, dEs.eq_2, dEs.eq_3, dTs.eq_1, dTs.eq_2, dTs.eq_3, dFs.eq_1, dFs.eq_2, dFs.eq_3, dI.eq_1, dI.eq_2, dI.eq_3, dI.eq_4, dI.eq_5, dI.eq_6, dT.eq_def, op1.eq_def, op2.eq_def, cmpI.eq_def, isCall.eq_def, isCall2.eq_def, recv.eq_def, in_chr, in_strtup, in_inttup, in_nontup, in_bltup, eqW_d, eqW_r, truth.eq_def, isiW.eq_def, walkW.eq_def, pairW.eq_def, isStr.eq_def, isLst.eq_def, recvM.eq_def, List.lookup.eq_1, List.lookup.eq_2, seqOf.eq_def, extOf.eq_def, dseq.eq_def, slW.eq_def, part.eq_def, isNone.eq_def, fmt.eq_def, augW.eq_def, newL.eq_def, blR.eq_def, Guard.ok.eq_1, Guard.ok.eq_2, Ev.R.opt.eq_def, attW.eq_def, Function.comp_def, enumW_map, toD.eq_1, toD.eq_2, toD.eq_3, Ev.D.datL.eq_1, Ev.D.datL.eq_2, Ev.D.dat.eq_1, Ev.D.dat.eq_2, Ev.D.dat.eq_3, Ev.D.dat.eq_4, Ev.D.dat.eq_5, Ev.D.dat.eq_6, Ev.D.dat.eq_7, Ev.D.dat.eq_8, TV.put.eq_1, TV.put.eq_2, TV.put.eq_3, Ev.T.put.eq_1, Ev.T.put.eq_2, Ev.T.put.eq_3, Ev.T.putL.eq_1, Ev.T.putL.eq_2, Ev.T.putL.eq_3, Ev.T.ix.eq_1, Ev.T.ix.eq_2, Ev.T.ixL.eq_1, Ev.T.ixL.eq_2, forget.eq_1, forget.eq_2, ixN.eq_def, Ev.T.tup.eq_def, lturn.eq_def, f__law_same_c1.eq_1, lk__law_same, hh]; (repeat rw [if_pos (by first | omega | (unfold LINE; omega) | (unfold LINE at *; omega))]); all_goals (first | rfl | exact ⟨rfl, rfl⟩ | exact ⟨rfl, rfl, rfl⟩ | exact ⟨rfl, rfl, rfl, rfl⟩ | (simp; done) | (unfold LINE; omega) | (unfold LINE at *; omega) | fail))) [] (by simpa using hl)
  have z := zipW_map (f := W.d) (l := l)
  simp only [List.nil_append, List.filterMap_eq_map', List.filterMap_some] at lp
  have lp2 : lcLoop (lturn (P.cx fuel (run P fuel (k + 1))) f__law_same_c1 (.t [.n 2, .n 3]) .nil [some (.d (.tup l)), some (.d (.tup l)), none, none]) [] (l.map fun x => TV.many [W.d x, W.d x]) [] S = .ok ((List.replicate l.length (D.bl true)).map W.d) S := by
    rw [lp]
    congr 1
    rw [← map_true]
  have tb := toBl_true l.length
  have td := toD_true l.length
  have ta := all_true l.length
  rw [run__law_same]
  (simp -implicitDefEqProofs -dsimp [dS_seq, dS_for, dS_while, dX_lc, dL_lc, dS.eq_1, dS.eq_3, dS.eq_4, dS.eq_5, dS.eq_6, dS.eq_7, dS.eq_8, dS.eq_9, dS.eq_12, dS.eq_13, dS.eq_14, dS.eq_15, dS.eq_16, dX.eq_1, dX.eq_2, dX.eq_3, dX.eq_4, dX.eq_5, dX.eq_6, dX.eq_7, dX.eq_8, dX.eq_9, dX.eq_10, dX.eq_11, dX.eq_12, dX.eq_13, dX.eq_14, dX.eq_15, dX.eq_16, dX.eq_17, dX.eq_18, dX.eq_20, dX.eq_21, dX.eq_22, dX.eq_23, dX.eq_24, dX.eq_25, dX.eq_26, dX.eq_27, dX.eq_28, dX.eq_29, dX.eq_30, dX.eq_31, dL.eq_1, dEs.eq_1, dEs.eq_2, dEs.eq_3, dTs.eq_1, dTs.eq_2, dTs.eq_3, dFs.eq_1, dFs.eq_2, dFs.eq_3, dI.eq_1, dI.eq_2, dI.eq_3, dI.eq_4, dI.eq_5, dI.eq_6, dT.eq_def, op1.eq_def, op2.eq_def, cmpI.eq_def, isCall.eq_def, isCall2.eq_def, recv.eq_def, in_chr, in_strtup, in_inttup, in_nontup, in_bltup, eqW_d, eqW_r, truth.eq_def, isiW.eq_def, walkW.eq_def, pairW.eq_def, isStr.eq_def, isLst.eq_def, recvM.eq_def, List.lookup.eq_1, List.lookup.eq_2, seqOf.eq_def, extOf.eq_def, dseq.eq_def, slW.eq_def, part.eq_def, isNone.eq_def, fmt.eq_def, augW.eq_def, newL.eq_def, blR.eq_def, Guard.ok.eq_1, Guard.ok.eq_2, Ev.R.opt.eq_def, attW.eq_def, Function.comp_def, enumW_map, toD.eq_1, toD.eq_2, toD.eq_3, Ev.D.datL.eq_1, Ev.D.datL.eq_2, Ev.D.dat.eq_1, Ev.D.dat.eq_2, Ev.D.dat.eq_3, Ev.D.dat.eq_4, Ev.D.dat.eq_5, Ev.D.dat.eq_6, Ev.D.dat.eq_7, Ev.D.dat.eq_8, TV.put.eq_1, TV.put.eq_2, TV.put.eq_3, Ev.T.put.eq_1, Ev.T.put.eq_2, Ev.T.put.eq_3, Ev.T.putL.eq_1, Ev.T.putL.eq_2, Ev.T.putL.eq_3, Ev.T.ix.eq_1, Ev.T.ix.eq_2, Ev.T.ixL.eq_1, Ev.T.ixL.eq_2, forget.eq_1, forget.eq_2, ixN.eq_def, Ev.T.tup.eq_def, f__law_same.eq_1, z, lp2, tb, td, ↓ta]; (repeat rw [if_pos (by first | omega | (unfold LINE; omega) | (unfold LINE at *; omega))]); all_goals (first | rfl | exact ⟨rfl, rfl⟩ | exact ⟨rfl, rfl, rfl⟩ | exact ⟨rfl, rfl, rfl, rfl⟩ | (simp; done) | (unfold LINE; omega) | (unfold LINE at *; omega) | fail))
theorem same_lst {a b : Nat} {l : List W} (ha : S[a]? = some (.lst l)) (hb : S[b]? = some (.lst l)) (hl : l.length ≤ LINE) (h : ∀ w ∈ l, Same fuel (k + 1) S w) : run P fuel (k + 2) "" "_law_same" [.r a, .r b] S = .ok (.d (.bl true)) S := by
  unfold Same at *
  have lp := lc_map (f := lturn (P.cx fuel (run P fuel (k + 1))) f__law_same_c2 (.t [.n 2, .n 3]) .nil [some (.r a), some (.r b), none, none]) (fun x : W => TV.many [x, x]) (fun _ => some (.d (.bl true))) [(a, l), (b, l)] S (by simp [Guard.ok, ha, hb]) l
    (fun x hx => by
      have hh := h x hx
      (simp -implicitDefEqProofs -dsimp [dS_seq, dS_for, dS_while, dX_lc, dL_lc, dS.eq_1, dS.eq_3, dS.eq_4, dS.eq_5, dS.eq_6, dS.eq_7, dS.eq_8, dS.eq_9, dS.eq_12, dS.eq_13, dS.eq_14, dS.eq_15, dS.eq_16, dX.eq_1, dX.eq_2, dX.eq_3, dX.eq_4, dX.eq_5, dX.eq_6, dX.eq_7, dX.eq_8, dX.eq_9, dX.eq_10, dX.eq_11, dX.eq_12, dX.eq_13, dX.eq_14, dX.eq_15, dX.eq_16, dX.eq_17, dX.eq_18, dX.eq_20, dX.eq_21, dX.eq_22, dX.eq_23, dX.eq_24, dX.eq_25, dX.eq_26, dX.eq_27, dX.eq_28, dX.eq_29, dX.eq_30, dX.eq_31, dL.eq_1, dEs.eq_1, dEs.eq_2, dEs.eq_3, dTs.eq_1, dTs.eq_2, dTs.eq_3, dFs.eq_1, dFs.eq_2, dFs.eq_3, dI.eq_1, dI.eq_2, dI.eq_3, dI.eq_4, dI.eq_5, dI.eq_6, dT.eq_def, op1.eq_def, op2.eq_def, cmpI.eq_def, isCall.eq_def, isCall2.eq_def, recv.eq_def, in_chr, in_strtup, in_inttup, in_nontup, in_bltup, eqW_d, eqW_r, truth.eq_def, isiW.eq_def, walkW.eq_def, pairW.eq_def, isStr.eq_def, isLst.eq_def, recvM.eq_def, List.lookup.eq_1, List.lookup.eq_2, seqOf.eq_def, extOf.eq_def, dseq.eq_def, slW.eq_def, part.eq_def, isNone.eq_def, fmt.eq_def, augW.eq_def, newL.eq_def, blR.eq_def, Guard.ok.eq_1, Guard.ok.eq_2, Ev.R.opt.eq_def, attW.eq_def, Function.comp_def, enumW_map, toD.eq_1, toD.eq_2, toD.eq_3, Ev.D.datL.eq_1, Ev.D.datL.eq_2, Ev.D.dat.eq_1, Ev.D.dat.eq_2, Ev.D.dat.eq_3, Ev.D.dat.eq_4, Ev.D.dat.eq_5, Ev.D.dat.eq_6, Ev.D.dat.eq_7, Ev.D.dat.eq_8, TV.put.eq_1, TV.put.eq_2, TV.put.eq_3, Ev.T.put.eq_1, Ev.T.put.eq_2, Ev.T.put.eq_3, Ev.T.putL.eq_1, Ev.T.putL.eq_2, Ev.T.putL.eq_3, Ev.T.ix.eq_1, Ev.T.ix.eq_2, Ev.T.ixL.eq_1, Ev.T.ixL.eq_2, forget.eq_1, forget.eq_2, ixN.eq_def, Ev.T.tup.eq_def, lturn.eq_def, f__law_same_c2.eq_1, lk__law_same, hh]; (repeat rw [if_pos (by first | omega | (unfold LINE; omega) | (unfold LINE at *; omega))]); all_goals (first | rfl | exact ⟨rfl, rfl⟩ | exact ⟨rfl, rfl, rfl⟩ | exact ⟨rfl, rfl, rfl, rfl⟩ | (simp; done) | (unfold LINE; omega) | (unfold LINE at *; omega) | fail))) [] (by simpa using hl)
  have z : zipW l l = l.map fun x => TV.many [x, x] := by simpa using zipW_map (f := fun x : W => x) (l := l)
  simp only [List.nil_append, List.filterMap_eq_map', List.filterMap_some] at lp
  have lp2 : lcLoop (lturn (P.cx fuel (run P fuel (k + 1))) f__law_same_c2 (.t [.n 2, .n 3]) .nil [some (.r a), some (.r b), none, none]) [(a, l), (b, l)] (l.map fun x => TV.many [x, x]) [] S = .ok ((List.replicate l.length (D.bl true)).map W.d) S := by
    rw [lp]
    congr 1
    rw [← map_true]
  have tb := toBl_true l.length
  have td := toD_true l.length
  have ta := all_true l.length
  rw [run__law_same]
  (simp -implicitDefEqProofs -dsimp [dS_seq, dS_for, dS_while, dX_lc, dL_lc, dS.eq_1, dS.eq_3, dS.eq_4, dS.eq_5, dS.eq_6, dS.eq_7, dS.eq_8, dS.eq_9, dS.eq_12, dS.eq_13, dS.eq_14, dS.eq_15, dS.eq_16, dX.eq_1, dX.eq_2, dX.eq_3, dX.eq_4, dX.eq_5, dX.eq_6, dX.eq_7, dX.eq_8, dX.eq_9, dX.eq_10, dX.eq_11, dX.eq_12, dX.eq_13, dX.eq_14, dX.eq_15, dX.eq_16, dX.eq_17, dX.eq_18, dX.eq_20, dX.eq_21, dX.eq_22, dX.eq_23, dX.eq_24, dX.eq_25, dX.eq_26, dX.eq_27, dX.eq_28, dX.eq_29, dX.eq_30, dX.eq_31, dL.eq_1, dEs.eq_1, dEs.eq_2, dEs.eq_3, dTs.eq_1, dTs.eq_2, dTs.eq_3, dFs.eq_1, dFs.eq_2, dFs.eq_3, dI.eq_1, dI.eq_2, dI.eq_3, dI.eq_4, dI.eq_5, dI.eq_6, dT.eq_def, op1.eq_def, op2.eq_def, cmpI.eq_def, isCall.eq_def, isCall2.eq_def, recv.eq_def, in_chr, in_strtup, in_inttup, in_nontup, in_bltup, eqW_d, eqW_r, truth.eq_def, isiW.eq_def, walkW.eq_def, pairW.eq_def, isStr.eq_def, isLst.eq_def, recvM.eq_def, List.lookup.eq_1, List.lookup.eq_2, seqOf.eq_def, extOf.eq_def, dseq.eq_def, slW.eq_def, part.eq_def, isNone.eq_def, fmt.eq_def, augW.eq_def, newL.eq_def, blR.eq_def, Guard.ok.eq_1, Guard.ok.eq_2, Ev.R.opt.eq_def, attW.eq_def, Function.comp_def, enumW_map, toD.eq_1, toD.eq_2, toD.eq_3, Ev.D.datL.eq_1, Ev.D.datL.eq_2, Ev.D.dat.eq_1, Ev.D.dat.eq_2, Ev.D.dat.eq_3, Ev.D.dat.eq_4, Ev.D.dat.eq_5, Ev.D.dat.eq_6, Ev.D.dat.eq_7, Ev.D.dat.eq_8, TV.put.eq_1, TV.put.eq_2, TV.put.eq_3, Ev.T.put.eq_1, Ev.T.put.eq_2, Ev.T.put.eq_3, Ev.T.putL.eq_1, Ev.T.putL.eq_2, Ev.T.putL.eq_3, Ev.T.ix.eq_1, Ev.T.ix.eq_2, Ev.T.ixL.eq_1, Ev.T.ixL.eq_2, forget.eq_1, forget.eq_2, ixN.eq_def, Ev.T.tup.eq_def, f__law_same.eq_1, z, lp2, tb, td, ↓ta, ha, hb]; (repeat rw [if_pos (by first | omega | (unfold LINE; omega) | (unfold LINE at *; omega))]); all_goals (first | rfl | exact ⟨rfl, rfl⟩ | exact ⟨rfl, rfl, rfl⟩ | exact ⟨rfl, rfl, rfl, rfl⟩ | (simp; done) | (unfold LINE; omega) | (unfold LINE at *; omega) | fail))
@[simp] theorem cx_sub {call : String → String → List W → Store → R W} {x C : String} : (P.cx fuel call).sub x C = if (P.exns.lookup x).isSome && (P.exns.lookup C).isSome then some (x == C || P.subs.contains (x, C)) else none := rfl
@[simp] theorem cx_hot {call : String → String → List W → Store → R W} : (P.cx fuel call).hot = runH P fuel := rfl
def tryP : Ev.S := match f__law_raised.body with
  | .seq a _ => a
  | _ => .nil
theorem raised_body : f__law_raised.body = .seq tryP (.ret (.o2 .index (.v 5) (.k (.bl true)))) := rfl
theorem raised_ok (s : W) (n : Int) (nm : Txt) {way : Nat} (hw : way < 4) : run P fuel (k + 1) "" "_law_raised" [.d (.int way), s, .d (.int n), .d (.str nm)] S = .ok (.d (.int ([0, 19, 22, 14].getD way 0))) S := by
  have e0 : ∀ call, (P.cx fuel call).exn "BadDeed" = some ["deed"] := fun _ => rfl
  have e1 : ∀ call, (P.cx fuel call).exn "NotComparable" = some ["part"] := fun _ => rfl
  have e2 : ∀ call, (P.cx fuel call).exn "NothingToUndo" = some [] := fun _ => rfl
  have e3 : ∀ call, (P.cx fuel call).exn "LimitExceeded" = some ["limit"] := fun _ => rfl
  have e4 : ∀ call, (P.cx fuel call).exn "SessionError" = some [] := fun _ => rfl
  have s0 : ∀ call, (P.cx fuel call).sub "BadDeed" "SessionError" = some true := fun _ => rfl
  have s1 : ∀ call, (P.cx fuel call).sub "NotComparable" "SessionError" = some true := fun _ => rfl
  have s2 : ∀ call, (P.cx fuel call).sub "NothingToUndo" "SessionError" = some true := fun _ => rfl
  have s3 : ∀ call, (P.cx fuel call).sub "LimitExceeded" "SessionError" = some true := fun _ => rfl
  have ka : ∀ C, (kinds1 C).map W.d ++ (kinds2 C).map W.d = (kinds C).map W.d := kinds_app
  have kl : ∀ C, (kinds1 C).length + (kinds2 C).length = 23 := fun _ => rfl
  have kn : ∀ C, (kinds C).length = 23 := fun _ => rfl
  have ix : ∀ C U (j : Nat) (i : Nat), U[j]? = some (.lst ((kinds C).map W.d)) → D.datL (kinds C) 63 = true → findD (.bl true) (kinds C) = some i → op2 .index (.r (S.length + j)) (.d (.bl true)) (S ++ U) = .ok (.d (.int i)) (S ++ U) := fun C U j i h1 h2 h3 => by
    have hd : dseq (S ++ U) (.r (S.length + j)) = some (kinds C) := by simp [dseq, seqOf, h1]
    simp [op2, hd, h2, h3, D.dat]
  have hS : ∃ T, dS (P.cx fuel (run P fuel k)) f__law_raised.body [some (.d (.int way)), some s, some (.d (.int n)), some (.d (.str nm)), none, none] S = .ok (.rt (.d (.int ([0, 19, 22, 14].getD way 0)))) (S ++ T) := by
    have : way = 0 ∨ way = 1 ∨ way = 2 ∨ way = 3 := by omega
    rcases this with rfl | rfl | rfl | rfl
    · have f1 : ∀ fs (S : Store), runH P fuel "_law_first" ⟨"BadDeed", fs⟩ S = .ok (.r S.length) (S ++ [.lst ((kinds1 "BadDeed").map W.d)]) := fun fs S => first_hot (x := ⟨"BadDeed", fs⟩) (show "BadDeed" ∈ NS by decide)
      have f2 : ∀ fs (S : Store), runH P fuel "_law_second" ⟨"BadDeed", fs⟩ S = .ok (.r S.length) (S ++ [.lst ((kinds2 "BadDeed").map W.d)]) := fun fs S => second_hot (x := ⟨"BadDeed", fs⟩) (show "BadDeed" ∈ NS by decide)
      have ix := ix "BadDeed" [.lst ((kinds1 "BadDeed").map W.d), .lst ((kinds2 "BadDeed").map W.d), .lst ((kinds "BadDeed").map W.d)] 2 0 rfl rfl (by decide +kernel)
      have hT : dS (P.cx fuel (run P fuel k)) tryP [some (.d (.int ((0 : Nat) : Int))), some s, some (.d (.int n)), some (.d (.str nm)), none, none] S = .ok (.nx [some (.d (.int ((0 : Nat) : Int))), some s, some (.d (.int n)), some (.d (.str nm)), none, some (.r (S.length + 2))]) (S ++ [.lst ((kinds1 "BadDeed").map W.d), .lst ((kinds2 "BadDeed").map W.d), .lst ((kinds "BadDeed").map W.d)]) := by
        unfold tryP
        (simp -implicitDefEqProofs -dsimp [dS_seq, dS_for, dS_while, dX_lc, dL_lc, dS.eq_1, dS.eq_3, dS.eq_4, dS.eq_5, dS.eq_6, dS.eq_7, dS.eq_8, dS.eq_9, dS.eq_12, dS.eq_13, dS.eq_14, dS.eq_15, dS.eq_16, dX.eq_1, dX.eq_2, dX.eq_3, dX.eq_4, dX.eq_5, dX.eq_6, dX.eq_7, dX.eq_8, dX.eq_9, dX.eq_10, dX.eq_11, dX.eq_12, dX.eq_13, dX.eq_14, dX.eq_15, dX.eq_16, dX.eq_17, dX.eq_18, dX.eq_20, dX.eq_21, dX.eq_22, dX.eq_23, dX.eq_24, dX.eq_25, dX.eq_26, dX.eq_27, dX.eq_28, dX.eq_29, dX.eq_30, dX.eq_31, dL.eq_1, dEs.eq_1, dEs.eq_2, dEs.eq_3, dTs.eq_1, dTs.eq_2, dTs.eq_3, dFs.eq_1, dFs.eq_2, dFs.eq_3, dI.eq_1, dI.eq_2, dI.eq_3, dI.eq_4, dI.eq_5, dI.eq_6, dT.eq_def, op1.eq_def, op2.eq_def, cmpI.eq_def, isCall.eq_def, isCall2.eq_def, recv.eq_def, in_chr, in_strtup, in_inttup, in_nontup, in_bltup, eqW_d, eqW_r, truth.eq_def, isiW.eq_def, walkW.eq_def, pairW.eq_def, isStr.eq_def, isLst.eq_def, recvM.eq_def, List.lookup.eq_1, List.lookup.eq_2, seqOf.eq_def, extOf.eq_def, dseq.eq_def, slW.eq_def, part.eq_def, isNone.eq_def, fmt.eq_def, augW.eq_def, newL.eq_def, blR.eq_def, Guard.ok.eq_1, Guard.ok.eq_2, Ev.R.opt.eq_def, attW.eq_def, Function.comp_def, enumW_map, toD.eq_1, toD.eq_2, toD.eq_3, Ev.D.datL.eq_1, Ev.D.datL.eq_2, Ev.D.dat.eq_1, Ev.D.dat.eq_2, Ev.D.dat.eq_3, Ev.D.dat.eq_4, Ev.D.dat.eq_5, Ev.D.dat.eq_6, Ev.D.dat.eq_7, Ev.D.dat.eq_8, TV.put.eq_1, TV.put.eq_2, TV.put.eq_3, Ev.T.put.eq_1, Ev.T.put.eq_2, Ev.T.put.eq_3, Ev.T.putL.eq_1, Ev.T.putL.eq_2, Ev.T.putL.eq_3, Ev.T.ix.eq_1, Ev.T.ix.eq_2, Ev.T.ixL.eq_1, Ev.T.ixL.eq_2, forget.eq_1, forget.eq_2, ixN.eq_def, Ev.T.tup.eq_def, f__law_raised.eq_1, ↓e0, ↓e4, ↓s0, f1, f2, ka, kl, kn, Ev.S.asg.eq_1, Ev.S.asg.eq_2, Ev.S.asg.eq_3, Ev.S.asg.eq_4, Ev.S.asg.eq_5, Ev.S.asg.eq_6, Ev.S.asg.eq_7, Ev.S.asg.eq_8, Fl.drop.eq_def]; (repeat rw [if_pos (by first | omega | (unfold LINE; omega) | (unfold LINE at *; omega))]); all_goals (first | rfl | exact ⟨rfl, rfl⟩ | exact ⟨rfl, rfl, rfl⟩ | exact ⟨rfl, rfl, rfl, rfl⟩ | (simp; done) | (unfold LINE; omega) | (unfold LINE at *; omega) | fail))
      refine ⟨[.lst ((kinds1 "BadDeed").map W.d), .lst ((kinds2 "BadDeed").map W.d), .lst ((kinds "BadDeed").map W.d)], ?_⟩
      rw [raised_body, dS_seq, hT, seqF_nx]
      (simp -implicitDefEqProofs -dsimp [dS_seq, dS_for, dS_while, dX_lc, dL_lc, dS.eq_1, dS.eq_3, dS.eq_4, dS.eq_5, dS.eq_6, dS.eq_7, dS.eq_8, dS.eq_9, dS.eq_12, dS.eq_13, dS.eq_14, dS.eq_15, dS.eq_16, dX.eq_1, dX.eq_2, dX.eq_3, dX.eq_4, dX.eq_5, dX.eq_6, dX.eq_7, dX.eq_8, dX.eq_9, dX.eq_10, dX.eq_11, dX.eq_12, dX.eq_13, dX.eq_14, dX.eq_15, dX.eq_16, dX.eq_17, dX.eq_18, dX.eq_20, dX.eq_21, dX.eq_22, dX.eq_23, dX.eq_24, dX.eq_25, dX.eq_26, dX.eq_27, dX.eq_28, dX.eq_29, dX.eq_30, dX.eq_31, dL.eq_1, dEs.eq_1, dEs.eq_2, dEs.eq_3, dTs.eq_1, dTs.eq_2, dTs.eq_3, dFs.eq_1, dFs.eq_2, dFs.eq_3, dI.eq_1, dI.eq_2, dI.eq_3, dI.eq_4, dI.eq_5, dI.eq_6, dT.eq_def, op1.eq_def, op2.eq_def, cmpI.eq_def, isCall.eq_def, isCall2.eq_def, recv.eq_def, in_chr, in_strtup, in_inttup, in_nontup, in_bltup, eqW_d, eqW_r, truth.eq_def, isiW.eq_def, walkW.eq_def, pairW.eq_def, isStr.eq_def, isLst.eq_def, recvM.eq_def, List.lookup.eq_1, List.lookup.eq_2, seqOf.eq_def, extOf.eq_def, dseq.eq_def, slW.eq_def, part.eq_def, isNone.eq_def, fmt.eq_def, augW.eq_def, newL.eq_def, blR.eq_def, Guard.ok.eq_1, Guard.ok.eq_2, Ev.R.opt.eq_def, attW.eq_def, Function.comp_def, enumW_map, toD.eq_1, toD.eq_2, toD.eq_3, Ev.D.datL.eq_1, Ev.D.datL.eq_2, Ev.D.dat.eq_1, Ev.D.dat.eq_2, Ev.D.dat.eq_3, Ev.D.dat.eq_4, Ev.D.dat.eq_5, Ev.D.dat.eq_6, Ev.D.dat.eq_7, Ev.D.dat.eq_8, TV.put.eq_1, TV.put.eq_2, TV.put.eq_3, Ev.T.put.eq_1, Ev.T.put.eq_2, Ev.T.put.eq_3, Ev.T.putL.eq_1, Ev.T.putL.eq_2, Ev.T.putL.eq_3, Ev.T.ix.eq_1, Ev.T.ix.eq_2, Ev.T.ixL.eq_1, Ev.T.ixL.eq_2, forget.eq_1, forget.eq_2, ixN.eq_def, Ev.T.tup.eq_def, ↓ix]; (repeat rw [if_pos (by first | omega | (unfold LINE; omega) | (unfold LINE at *; omega))]); all_goals (first | rfl | exact ⟨rfl, rfl⟩ | exact ⟨rfl, rfl, rfl⟩ | exact ⟨rfl, rfl, rfl, rfl⟩ | (simp; done) | (unfold LINE; omega) | (unfold LINE at *; omega) | fail))
    · have f1 : ∀ fs (S : Store), runH P fuel "_law_first" ⟨"NotComparable", fs⟩ S = .ok (.r S.length) (S ++ [.lst ((kinds1 "NotComparable").map W.d)]) := fun fs S => first_hot (x := ⟨"NotComparable", fs⟩) (show "NotComparable" ∈ NS by decide)
      have f2 : ∀ fs (S : Store), runH P fuel "_law_second" ⟨"NotComparable", fs⟩ S = .ok (.r S.length) (S ++ [.lst ((kinds2 "NotComparable").map W.d)]) := fun fs S => second_hot (x := ⟨"NotComparable", fs⟩) (show "NotComparable" ∈ NS by decide)
      have ix := ix "NotComparable" [.lst ((kinds1 "NotComparable").map W.d), .lst ((kinds2 "NotComparable").map W.d), .lst ((kinds "NotComparable").map W.d)] 2 19 rfl rfl (by decide +kernel)
      have hT : dS (P.cx fuel (run P fuel k)) tryP [some (.d (.int ((1 : Nat) : Int))), some s, some (.d (.int n)), some (.d (.str nm)), none, none] S = .ok (.nx [some (.d (.int ((1 : Nat) : Int))), some s, some (.d (.int n)), some (.d (.str nm)), none, some (.r (S.length + 2))]) (S ++ [.lst ((kinds1 "NotComparable").map W.d), .lst ((kinds2 "NotComparable").map W.d), .lst ((kinds "NotComparable").map W.d)]) := by
        unfold tryP
        (simp -implicitDefEqProofs -dsimp [dS_seq, dS_for, dS_while, dX_lc, dL_lc, dS.eq_1, dS.eq_3, dS.eq_4, dS.eq_5, dS.eq_6, dS.eq_7, dS.eq_8, dS.eq_9, dS.eq_12, dS.eq_13, dS.eq_14, dS.eq_15, dS.eq_16, dX.eq_1, dX.eq_2, dX.eq_3, dX.eq_4, dX.eq_5, dX.eq_6, dX.eq_7, dX.eq_8, dX.eq_9, dX.eq_10, dX.eq_11, dX.eq_12, dX.eq_13, dX.eq_14, dX.eq_15, dX.eq_16, dX.eq_17, dX.eq_18, dX.eq_20, dX.eq_21, dX.eq_22, dX.eq_23, dX.eq_24, dX.eq_25, dX.eq_26, dX.eq_27, dX.eq_28, dX.eq_29, dX.eq_30, dX.eq_31, dL.eq_1, dEs.eq_1, dEs.eq_2, dEs.eq_3, dTs.eq_1, dTs.eq_2, dTs.eq_3, dFs.eq_1, dFs.eq_2, dFs.eq_3, dI.eq_1, dI.eq_2, dI.eq_3, dI.eq_4, dI.eq_5, dI.eq_6, dT.eq_def, op1.eq_def, op2.eq_def, cmpI.eq_def, isCall.eq_def, isCall2.eq_def, recv.eq_def, in_chr, in_strtup, in_inttup, in_nontup, in_bltup, eqW_d, eqW_r, truth.eq_def, isiW.eq_def, walkW.eq_def, pairW.eq_def, isStr.eq_def, isLst.eq_def, recvM.eq_def, List.lookup.eq_1, List.lookup.eq_2, seqOf.eq_def, extOf.eq_def, dseq.eq_def, slW.eq_def, part.eq_def, isNone.eq_def, fmt.eq_def, augW.eq_def, newL.eq_def, blR.eq_def, Guard.ok.eq_1, Guard.ok.eq_2, Ev.R.opt.eq_def, attW.eq_def, Function.comp_def, enumW_map, toD.eq_1, toD.eq_2, toD.eq_3, Ev.D.datL.eq_1, Ev.D.datL.eq_2, Ev.D.dat.eq_1, Ev.D.dat.eq_2, Ev.D.dat.eq_3, Ev.D.dat.eq_4, Ev.D.dat.eq_5, Ev.D.dat.eq_6, Ev.D.dat.eq_7, Ev.D.dat.eq_8, TV.put.eq_1, TV.put.eq_2, TV.put.eq_3, Ev.T.put.eq_1, Ev.T.put.eq_2, Ev.T.put.eq_3, Ev.T.putL.eq_1, Ev.T.putL.eq_2, Ev.T.putL.eq_3, Ev.T.ix.eq_1, Ev.T.ix.eq_2, Ev.T.ixL.eq_1, Ev.T.ixL.eq_2, forget.eq_1, forget.eq_2, ixN.eq_def, Ev.T.tup.eq_def, f__law_raised.eq_1, ↓e1, ↓e4, ↓s1, f1, f2, ka, kl, kn, Ev.S.asg.eq_1, Ev.S.asg.eq_2, Ev.S.asg.eq_3, Ev.S.asg.eq_4, Ev.S.asg.eq_5, Ev.S.asg.eq_6, Ev.S.asg.eq_7, Ev.S.asg.eq_8, Fl.drop.eq_def]; (repeat rw [if_pos (by first | omega | (unfold LINE; omega) | (unfold LINE at *; omega))]); all_goals (first | rfl | exact ⟨rfl, rfl⟩ | exact ⟨rfl, rfl, rfl⟩ | exact ⟨rfl, rfl, rfl, rfl⟩ | (simp; done) | (unfold LINE; omega) | (unfold LINE at *; omega) | fail))
      refine ⟨[.lst ((kinds1 "NotComparable").map W.d), .lst ((kinds2 "NotComparable").map W.d), .lst ((kinds "NotComparable").map W.d)], ?_⟩
      rw [raised_body, dS_seq, hT, seqF_nx]
      (simp -implicitDefEqProofs -dsimp [dS_seq, dS_for, dS_while, dX_lc, dL_lc, dS.eq_1, dS.eq_3, dS.eq_4, dS.eq_5, dS.eq_6, dS.eq_7, dS.eq_8, dS.eq_9, dS.eq_12, dS.eq_13, dS.eq_14, dS.eq_15, dS.eq_16, dX.eq_1, dX.eq_2, dX.eq_3, dX.eq_4, dX.eq_5, dX.eq_6, dX.eq_7, dX.eq_8, dX.eq_9, dX.eq_10, dX.eq_11, dX.eq_12, dX.eq_13, dX.eq_14, dX.eq_15, dX.eq_16, dX.eq_17, dX.eq_18, dX.eq_20, dX.eq_21, dX.eq_22, dX.eq_23, dX.eq_24, dX.eq_25, dX.eq_26, dX.eq_27, dX.eq_28, dX.eq_29, dX.eq_30, dX.eq_31, dL.eq_1, dEs.eq_1, dEs.eq_2, dEs.eq_3, dTs.eq_1, dTs.eq_2, dTs.eq_3, dFs.eq_1, dFs.eq_2, dFs.eq_3, dI.eq_1, dI.eq_2, dI.eq_3, dI.eq_4, dI.eq_5, dI.eq_6, dT.eq_def, op1.eq_def, op2.eq_def, cmpI.eq_def, isCall.eq_def, isCall2.eq_def, recv.eq_def, in_chr, in_strtup, in_inttup, in_nontup, in_bltup, eqW_d, eqW_r, truth.eq_def, isiW.eq_def, walkW.eq_def, pairW.eq_def, isStr.eq_def, isLst.eq_def, recvM.eq_def, List.lookup.eq_1, List.lookup.eq_2, seqOf.eq_def, extOf.eq_def, dseq.eq_def, slW.eq_def, part.eq_def, isNone.eq_def, fmt.eq_def, augW.eq_def, newL.eq_def, blR.eq_def, Guard.ok.eq_1, Guard.ok.eq_2, Ev.R.opt.eq_def, attW.eq_def, Function.comp_def, enumW_map, toD.eq_1, toD.eq_2, toD.eq_3, Ev.D.datL.eq_1, Ev.D.datL.eq_2, Ev.D.dat.eq_1, Ev.D.dat.eq_2, Ev.D.dat.eq_3, Ev.D.dat.eq_4, Ev.D.dat.eq_5, Ev.D.dat.eq_6, Ev.D.dat.eq_7, Ev.D.dat.eq_8, TV.put.eq_1, TV.put.eq_2, TV.put.eq_3, Ev.T.put.eq_1, Ev.T.put.eq_2, Ev.T.put.eq_3, Ev.T.putL.eq_1, Ev.T.putL.eq_2, Ev.T.putL.eq_3, Ev.T.ix.eq_1, Ev.T.ix.eq_2, Ev.T.ixL.eq_1, Ev.T.ixL.eq_2, forget.eq_1, forget.eq_2, ixN.eq_def, Ev.T.tup.eq_def, ↓ix]; (repeat rw [if_pos (by first | omega | (unfold LINE; omega) | (unfold LINE at *; omega))]); all_goals (first | rfl | exact ⟨rfl, rfl⟩ | exact ⟨rfl, rfl, rfl⟩ | exact ⟨rfl, rfl, rfl, rfl⟩ | (simp; done) | (unfold LINE; omega) | (unfold LINE at *; omega) | fail))
    · have f1 : ∀ fs (S : Store), runH P fuel "_law_first" ⟨"NothingToUndo", fs⟩ S = .ok (.r S.length) (S ++ [.lst ((kinds1 "NothingToUndo").map W.d)]) := fun fs S => first_hot (x := ⟨"NothingToUndo", fs⟩) (show "NothingToUndo" ∈ NS by decide)
      have f2 : ∀ fs (S : Store), runH P fuel "_law_second" ⟨"NothingToUndo", fs⟩ S = .ok (.r S.length) (S ++ [.lst ((kinds2 "NothingToUndo").map W.d)]) := fun fs S => second_hot (x := ⟨"NothingToUndo", fs⟩) (show "NothingToUndo" ∈ NS by decide)
      have ix := ix "NothingToUndo" [.lst ((kinds1 "NothingToUndo").map W.d), .lst ((kinds2 "NothingToUndo").map W.d), .lst ((kinds "NothingToUndo").map W.d)] 2 22 rfl rfl (by decide +kernel)
      have hT : dS (P.cx fuel (run P fuel k)) tryP [some (.d (.int ((2 : Nat) : Int))), some s, some (.d (.int n)), some (.d (.str nm)), none, none] S = .ok (.nx [some (.d (.int ((2 : Nat) : Int))), some s, some (.d (.int n)), some (.d (.str nm)), none, some (.r (S.length + 2))]) (S ++ [.lst ((kinds1 "NothingToUndo").map W.d), .lst ((kinds2 "NothingToUndo").map W.d), .lst ((kinds "NothingToUndo").map W.d)]) := by
        unfold tryP
        (simp -implicitDefEqProofs -dsimp [dS_seq, dS_for, dS_while, dX_lc, dL_lc, dS.eq_1, dS.eq_3, dS.eq_4, dS.eq_5, dS.eq_6, dS.eq_7, dS.eq_8, dS.eq_9, dS.eq_12, dS.eq_13, dS.eq_14, dS.eq_15, dS.eq_16, dX.eq_1, dX.eq_2, dX.eq_3, dX.eq_4, dX.eq_5, dX.eq_6, dX.eq_7, dX.eq_8, dX.eq_9, dX.eq_10, dX.eq_11, dX.eq_12, dX.eq_13, dX.eq_14, dX.eq_15, dX.eq_16, dX.eq_17, dX.eq_18, dX.eq_20, dX.eq_21, dX.eq_22, dX.eq_23, dX.eq_24, dX.eq_25, dX.eq_26, dX.eq_27, dX.eq_28, dX.eq_29, dX.eq_30, dX.eq_31, dL.eq_1, dEs.eq_1, dEs.eq_2, dEs.eq_3, dTs.eq_1, dTs.eq_2, dTs.eq_3, dFs.eq_1, dFs.eq_2, dFs.eq_3, dI.eq_1, dI.eq_2, dI.eq_3, dI.eq_4, dI.eq_5, dI.eq_6, dT.eq_def, op1.eq_def, op2.eq_def, cmpI.eq_def, isCall.eq_def, isCall2.eq_def, recv.eq_def, in_chr, in_strtup, in_inttup, in_nontup, in_bltup, eqW_d, eqW_r, truth.eq_def, isiW.eq_def, walkW.eq_def, pairW.eq_def, isStr.eq_def, isLst.eq_def, recvM.eq_def, List.lookup.eq_1, List.lookup.eq_2, seqOf.eq_def, extOf.eq_def, dseq.eq_def, slW.eq_def, part.eq_def, isNone.eq_def, fmt.eq_def, augW.eq_def, newL.eq_def, blR.eq_def, Guard.ok.eq_1, Guard.ok.eq_2, Ev.R.opt.eq_def, attW.eq_def, Function.comp_def, enumW_map, toD.eq_1, toD.eq_2, toD.eq_3, Ev.D.datL.eq_1, Ev.D.datL.eq_2, Ev.D.dat.eq_1, Ev.D.dat.eq_2, Ev.D.dat.eq_3, Ev.D.dat.eq_4, Ev.D.dat.eq_5, Ev.D.dat.eq_6, Ev.D.dat.eq_7, Ev.D.dat.eq_8, TV.put.eq_1, TV.put.eq_2, TV.put.eq_3, Ev.T.put.eq_1, Ev.T.put.eq_2, Ev.T.put.eq_3, Ev.T.putL.eq_1, Ev.T.putL.eq_2, Ev.T.putL.eq_3, Ev.T.ix.eq_1, Ev.T.ix.eq_2, Ev.T.ixL.eq_1, Ev.T.ixL.eq_2, forget.eq_1, forget.eq_2, ixN.eq_def, Ev.T.tup.eq_def, f__law_raised.eq_1, ↓e2, ↓e4, ↓s2, f1, f2, ka, kl, kn, Ev.S.asg.eq_1, Ev.S.asg.eq_2, Ev.S.asg.eq_3, Ev.S.asg.eq_4, Ev.S.asg.eq_5, Ev.S.asg.eq_6, Ev.S.asg.eq_7, Ev.S.asg.eq_8, Fl.drop.eq_def]; (repeat rw [if_pos (by first | omega | (unfold LINE; omega) | (unfold LINE at *; omega))]); all_goals (first | rfl | exact ⟨rfl, rfl⟩ | exact ⟨rfl, rfl, rfl⟩ | exact ⟨rfl, rfl, rfl, rfl⟩ | (simp; done) | (unfold LINE; omega) | (unfold LINE at *; omega) | fail))
      refine ⟨[.lst ((kinds1 "NothingToUndo").map W.d), .lst ((kinds2 "NothingToUndo").map W.d), .lst ((kinds "NothingToUndo").map W.d)], ?_⟩
      rw [raised_body, dS_seq, hT, seqF_nx]
      (simp -implicitDefEqProofs -dsimp [dS_seq, dS_for, dS_while, dX_lc, dL_lc, dS.eq_1, dS.eq_3, dS.eq_4, dS.eq_5, dS.eq_6, dS.eq_7, dS.eq_8, dS.eq_9, dS.eq_12, dS.eq_13, dS.eq_14, dS.eq_15, dS.eq_16, dX.eq_1, dX.eq_2, dX.eq_3, dX.eq_4, dX.eq_5, dX.eq_6, dX.eq_7, dX.eq_8, dX.eq_9, dX.eq_10, dX.eq_11, dX.eq_12, dX.eq_13, dX.eq_14, dX.eq_15, dX.eq_16, dX.eq_17, dX.eq_18, dX.eq_20, dX.eq_21, dX.eq_22, dX.eq_23, dX.eq_24, dX.eq_25, dX.eq_26, dX.eq_27, dX.eq_28, dX.eq_29, dX.eq_30, dX.eq_31, dL.eq_1, dEs.eq_1, dEs.eq_2, dEs.eq_3, dTs.eq_1, dTs.eq_2, dTs.eq_3, dFs.eq_1, dFs.eq_2, dFs.eq_3, dI.eq_1, dI.eq_2, dI.eq_3, dI.eq_4, dI.eq_5, dI.eq_6, dT.eq_def, op1.eq_def, op2.eq_def, cmpI.eq_def, isCall.eq_def, isCall2.eq_def, recv.eq_def, in_chr, in_strtup, in_inttup, in_nontup, in_bltup, eqW_d, eqW_r, truth.eq_def, isiW.eq_def, walkW.eq_def, pairW.eq_def, isStr.eq_def, isLst.eq_def, recvM.eq_def, List.lookup.eq_1, List.lookup.eq_2, seqOf.eq_def, extOf.eq_def, dseq.eq_def, slW.eq_def, part.eq_def, isNone.eq_def, fmt.eq_def, augW.eq_def, newL.eq_def, blR.eq_def, Guard.ok.eq_1, Guard.ok.eq_2, Ev.R.opt.eq_def, attW.eq_def, Function.comp_def, enumW_map, toD.eq_1, toD.eq_2, toD.eq_3, Ev.D.datL.eq_1, Ev.D.datL.eq_2, Ev.D.dat.eq_1, Ev.D.dat.eq_2, Ev.D.dat.eq_3, Ev.D.dat.eq_4, Ev.D.dat.eq_5, Ev.D.dat.eq_6, Ev.D.dat.eq_7, Ev.D.dat.eq_8, TV.put.eq_1, TV.put.eq_2, TV.put.eq_3, Ev.T.put.eq_1, Ev.T.put.eq_2, Ev.T.put.eq_3, Ev.T.putL.eq_1, Ev.T.putL.eq_2, Ev.T.putL.eq_3, Ev.T.ix.eq_1, Ev.T.ix.eq_2, Ev.T.ixL.eq_1, Ev.T.ixL.eq_2, forget.eq_1, forget.eq_2, ixN.eq_def, Ev.T.tup.eq_def, ↓ix]; (repeat rw [if_pos (by first | omega | (unfold LINE; omega) | (unfold LINE at *; omega))]); all_goals (first | rfl | exact ⟨rfl, rfl⟩ | exact ⟨rfl, rfl, rfl⟩ | exact ⟨rfl, rfl, rfl, rfl⟩ | (simp; done) | (unfold LINE; omega) | (unfold LINE at *; omega) | fail))
    · have f1 : ∀ fs (S : Store), runH P fuel "_law_first" ⟨"LimitExceeded", fs⟩ S = .ok (.r S.length) (S ++ [.lst ((kinds1 "LimitExceeded").map W.d)]) := fun fs S => first_hot (x := ⟨"LimitExceeded", fs⟩) (show "LimitExceeded" ∈ NS by decide)
      have f2 : ∀ fs (S : Store), runH P fuel "_law_second" ⟨"LimitExceeded", fs⟩ S = .ok (.r S.length) (S ++ [.lst ((kinds2 "LimitExceeded").map W.d)]) := fun fs S => second_hot (x := ⟨"LimitExceeded", fs⟩) (show "LimitExceeded" ∈ NS by decide)
      have ix := ix "LimitExceeded" [.lst ((kinds1 "LimitExceeded").map W.d), .lst ((kinds2 "LimitExceeded").map W.d), .lst ((kinds "LimitExceeded").map W.d)] 2 14 rfl rfl (by decide +kernel)
      have hT : dS (P.cx fuel (run P fuel k)) tryP [some (.d (.int ((3 : Nat) : Int))), some s, some (.d (.int n)), some (.d (.str nm)), none, none] S = .ok (.nx [some (.d (.int ((3 : Nat) : Int))), some s, some (.d (.int n)), some (.d (.str nm)), none, some (.r (S.length + 2))]) (S ++ [.lst ((kinds1 "LimitExceeded").map W.d), .lst ((kinds2 "LimitExceeded").map W.d), .lst ((kinds "LimitExceeded").map W.d)]) := by
        unfold tryP
        (simp -implicitDefEqProofs -dsimp [dS_seq, dS_for, dS_while, dX_lc, dL_lc, dS.eq_1, dS.eq_3, dS.eq_4, dS.eq_5, dS.eq_6, dS.eq_7, dS.eq_8, dS.eq_9, dS.eq_12, dS.eq_13, dS.eq_14, dS.eq_15, dS.eq_16, dX.eq_1, dX.eq_2, dX.eq_3, dX.eq_4, dX.eq_5, dX.eq_6, dX.eq_7, dX.eq_8, dX.eq_9, dX.eq_10, dX.eq_11, dX.eq_12, dX.eq_13, dX.eq_14, dX.eq_15, dX.eq_16, dX.eq_17, dX.eq_18, dX.eq_20, dX.eq_21, dX.eq_22, dX.eq_23, dX.eq_24, dX.eq_25, dX.eq_26, dX.eq_27, dX.eq_28, dX.eq_29, dX.eq_30, dX.eq_31, dL.eq_1, dEs.eq_1, dEs.eq_2, dEs.eq_3, dTs.eq_1, dTs.eq_2, dTs.eq_3, dFs.eq_1, dFs.eq_2, dFs.eq_3, dI.eq_1, dI.eq_2, dI.eq_3, dI.eq_4, dI.eq_5, dI.eq_6, dT.eq_def, op1.eq_def, op2.eq_def, cmpI.eq_def, isCall.eq_def, isCall2.eq_def, recv.eq_def, in_chr, in_strtup, in_inttup, in_nontup, in_bltup, eqW_d, eqW_r, truth.eq_def, isiW.eq_def, walkW.eq_def, pairW.eq_def, isStr.eq_def, isLst.eq_def, recvM.eq_def, List.lookup.eq_1, List.lookup.eq_2, seqOf.eq_def, extOf.eq_def, dseq.eq_def, slW.eq_def, part.eq_def, isNone.eq_def, fmt.eq_def, augW.eq_def, newL.eq_def, blR.eq_def, Guard.ok.eq_1, Guard.ok.eq_2, Ev.R.opt.eq_def, attW.eq_def, Function.comp_def, enumW_map, toD.eq_1, toD.eq_2, toD.eq_3, Ev.D.datL.eq_1, Ev.D.datL.eq_2, Ev.D.dat.eq_1, Ev.D.dat.eq_2, Ev.D.dat.eq_3, Ev.D.dat.eq_4, Ev.D.dat.eq_5, Ev.D.dat.eq_6, Ev.D.dat.eq_7, Ev.D.dat.eq_8, TV.put.eq_1, TV.put.eq_2, TV.put.eq_3, Ev.T.put.eq_1, Ev.T.put.eq_2, Ev.T.put.eq_3, Ev.T.putL.eq_1, Ev.T.putL.eq_2, Ev.T.putL.eq_3, Ev.T.ix.eq_1, Ev.T.ix.eq_2, Ev.T.ixL.eq_1, Ev.T.ixL.eq_2, forget.eq_1, forget.eq_2, ixN.eq_def, Ev.T.tup.eq_def, f__law_raised.eq_1, ↓e3, ↓e4, ↓s3, f1, f2, ka, kl, kn, Ev.S.asg.eq_1, Ev.S.asg.eq_2, Ev.S.asg.eq_3, Ev.S.asg.eq_4, Ev.S.asg.eq_5, Ev.S.asg.eq_6, Ev.S.asg.eq_7, Ev.S.asg.eq_8, Fl.drop.eq_def]; (repeat rw [if_pos (by first | omega | (unfold LINE; omega) | (unfold LINE at *; omega))]); all_goals (first | rfl | exact ⟨rfl, rfl⟩ | exact ⟨rfl, rfl, rfl⟩ | exact ⟨rfl, rfl, rfl, rfl⟩ | (simp; done) | (unfold LINE; omega) | (unfold LINE at *; omega) | fail))
      refine ⟨[.lst ((kinds1 "LimitExceeded").map W.d), .lst ((kinds2 "LimitExceeded").map W.d), .lst ((kinds "LimitExceeded").map W.d)], ?_⟩
      rw [raised_body, dS_seq, hT, seqF_nx]
      (simp -implicitDefEqProofs -dsimp [dS_seq, dS_for, dS_while, dX_lc, dL_lc, dS.eq_1, dS.eq_3, dS.eq_4, dS.eq_5, dS.eq_6, dS.eq_7, dS.eq_8, dS.eq_9, dS.eq_12, dS.eq_13, dS.eq_14, dS.eq_15, dS.eq_16, dX.eq_1, dX.eq_2, dX.eq_3, dX.eq_4, dX.eq_5, dX.eq_6, dX.eq_7, dX.eq_8, dX.eq_9, dX.eq_10, dX.eq_11, dX.eq_12, dX.eq_13, dX.eq_14, dX.eq_15, dX.eq_16, dX.eq_17, dX.eq_18, dX.eq_20, dX.eq_21, dX.eq_22, dX.eq_23, dX.eq_24, dX.eq_25, dX.eq_26, dX.eq_27, dX.eq_28, dX.eq_29, dX.eq_30, dX.eq_31, dL.eq_1, dEs.eq_1, dEs.eq_2, dEs.eq_3, dTs.eq_1, dTs.eq_2, dTs.eq_3, dFs.eq_1, dFs.eq_2, dFs.eq_3, dI.eq_1, dI.eq_2, dI.eq_3, dI.eq_4, dI.eq_5, dI.eq_6, dT.eq_def, op1.eq_def, op2.eq_def, cmpI.eq_def, isCall.eq_def, isCall2.eq_def, recv.eq_def, in_chr, in_strtup, in_inttup, in_nontup, in_bltup, eqW_d, eqW_r, truth.eq_def, isiW.eq_def, walkW.eq_def, pairW.eq_def, isStr.eq_def, isLst.eq_def, recvM.eq_def, List.lookup.eq_1, List.lookup.eq_2, seqOf.eq_def, extOf.eq_def, dseq.eq_def, slW.eq_def, part.eq_def, isNone.eq_def, fmt.eq_def, augW.eq_def, newL.eq_def, blR.eq_def, Guard.ok.eq_1, Guard.ok.eq_2, Ev.R.opt.eq_def, attW.eq_def, Function.comp_def, enumW_map, toD.eq_1, toD.eq_2, toD.eq_3, Ev.D.datL.eq_1, Ev.D.datL.eq_2, Ev.D.dat.eq_1, Ev.D.dat.eq_2, Ev.D.dat.eq_3, Ev.D.dat.eq_4, Ev.D.dat.eq_5, Ev.D.dat.eq_6, Ev.D.dat.eq_7, Ev.D.dat.eq_8, TV.put.eq_1, TV.put.eq_2, TV.put.eq_3, Ev.T.put.eq_1, Ev.T.put.eq_2, Ev.T.put.eq_3, Ev.T.putL.eq_1, Ev.T.putL.eq_2, Ev.T.putL.eq_3, Ev.T.ix.eq_1, Ev.T.ix.eq_2, Ev.T.ixL.eq_1, Ev.T.ixL.eq_2, forget.eq_1, forget.eq_2, ixN.eq_def, Ev.T.tup.eq_def, ↓ix]; (repeat rw [if_pos (by first | omega | (unfold LINE; omega) | (unfold LINE at *; omega))]); all_goals (first | rfl | exact ⟨rfl, rfl⟩ | exact ⟨rfl, rfl, rfl⟩ | exact ⟨rfl, rfl, rfl, rfl⟩ | (simp; done) | (unfold LINE; omega) | (unfold LINE at *; omega) | fail))
  obtain ⟨T, hS⟩ := hS
  rw [run__law_raised, hS, fin_rt_d]
end Ev
end

section
set_option linter.all false
set_option autoImplicit false
set_option maxHeartbeats 4000000
/-! EN10: the law holds. -/
namespace Ev
variable {fuel k : Nat} {S : Store}
def items (q : Nat) (nm : Txt) (pa : List D) : List W := [.d (.int 0), .d (.int 7), .d (.int (-1)), .d (.str []), .d (.str ['Q']), .d .non, .d (.tup []), .d (.tup [.int 1, .int 2]), .d (.bl true), .r q, .d (.tup [.str ['g', 'o'], .str ['a']]), .d (.int 1000000000000000000000000000000), .d (.str nm), .d (.tup pa)]
theorem items_lt {q n : Nat} {nm : Txt} {pa : List D} (h : q < n) {w : W} (hw : w ∈ items q nm pa) : W.lt n w = true := by
  simp only [items, List.mem_cons, List.not_mem_nil, or_false] at hw
  rcases hw with rfl | rfl | rfl | rfl | rfl | rfl | rfl | rfl | rfl | rfl | rfl | rfl | rfl | rfl <;> simp [W.lt, h]
theorem ints_same {pa : List D} (h : ∀ v ∈ pa, ∃ i, v = .int i) (hl : pa.length ≤ 100) : Same fuel (k + 2) S (.d (.tup pa)) :=
  same_tup pa (by unfold LINE; omega) fun d hd S => by
    obtain ⟨i, rfl⟩ := h d hd
    exact same_int i
theorem items_same {q : Nat} {nm : Txt} {pa : List D} (hq : S[q]? = some (.lst [.d (.int 3)])) (h : ∀ v ∈ pa, ∃ i, v = .int i) (hl : pa.length ≤ 100) {w : W} (hw : w ∈ items q nm pa) : Same fuel (k + 2) S w := by
  simp only [items, List.mem_cons, List.not_mem_nil, or_false] at hw
  rcases hw with rfl | rfl | rfl | rfl | rfl | rfl | rfl | rfl | rfl | rfl | rfl | rfl | rfl | rfl
  · exact same_int 0
  · exact same_int 7
  · exact same_int (-1)
  · exact same_str []
  · exact same_str _
  · exact same_non
  · exact ints_same (by simp) (by simp)
  · exact ints_same (by simp) (by simp)
  · exact same_bl true
  · exact same_lst hq hq (by decide) fun w hw => by
      simp only [List.mem_singleton] at hw
      subst hw
      exact same_int 3
  · exact same_tup _ (by decide) fun d hd S => by
      simp only [List.mem_cons, List.not_mem_nil, or_false] at hd
      rcases hd with rfl | rfl
      · exact same_str _
      · exact same_str _
  · exact same_int _
  · exact same_str _
  · exact ints_same h hl
theorem due_same {q : Nat} {s : W} {n : Int} {nm : Txt} {pa : List D} (hs : Same fuel (k + 2) S s) (h : ∀ v ∈ pa, ∃ i, v = .int i) (hl : pa.length ≤ 100) {w : W} (hw : w ∈ dueL s n pa nm) : Same fuel (k + 2) S w := by
  have h1 : Same fuel (k + 2) S (.d (.int n)) := same_int n
  have h2 : Same fuel (k + 2) S (.d (.str nm)) := same_str nm
  have h3 : Same fuel (k + 2) S (.d (.tup pa)) := ints_same h hl
  have h4 : Same fuel (k + 2) S (.d (.int (n + 1))) := same_int _
  simp only [dueL, List.mem_cons, List.not_mem_nil, or_false] at hw
  rcases hw with rfl | rfl | rfl | rfl | rfl | rfl | rfl | rfl | rfl | rfl | rfl | rfl | rfl | rfl | rfl | rfl | rfl | rfl | rfl | rfl <;> assumption
/-- a value is picked -/
theorem pick_some {p : Nat} {nm : Txt} {pa : List D} (h : Pool S p []) : ∃ w T, run P fuel (k + 2) "" "_law_pick" [.r p, .r (S.length + 1)] (S ++ [.lst [.d (.int 3)], .lst (items S.length nm pa)]) = .ok w T ∧ Pool T p [] ∧ T[S.length]? = some (.lst [.d (.int 3)]) ∧ w ∈ items S.length nm pa := by
  have hp := h.lt
  have h' := h.app [.lst [.d (.int 3)], .lst (items S.length nm pa)]
  obtain ⟨w, T, e1, p1, x1, hw⟩ := pickW_ok (fuel := fuel) (k := k) (n := S.length + 1) (ws := items S.length nm pa) h' old_nil (by omega) (by simp) (by simp [items]) (by simp [items])
  obtain ⟨T', e2, p2, x2⟩ := gc_drawW (w := w) (items_lt (by simp) hw) h' p1 x1
  refine ⟨w, T', ?_, p2, x2.get (i := S.length) (by simp) (by omega), hw⟩
  rw [run__law_pick, e1]
  exact e2
theorem law_ok (n : Nat) (xs : List Int) (hs : S[n]? = some (.fro (intsW xs))) : ∃ T, run P fuel (k + 4) "" "law" [.r n] S = .ok (.d (.bl true)) T := by
  obtain ⟨U, e1, p1⟩ := pool_ok (fuel := fuel) (k := k + 2) (S := S) n xs hs
  generalize S.length + 4 = p at e1 p1
  generalize hS1 : S ++ U = S1 at e1 p1
  obtain ⟨v, S2, e2, p2, x2, way, rfl, hway⟩ := draw_lit (fuel := fuel) (k := k + 2) p1 old_nil 4 (z := 4) rfl (by omega) (by omega)
  obtain ⟨v, S3, e3, p3, x3, nu, rfl, hnu⟩ := draw_lit (fuel := fuel) (k := k + 2) p2 old_nil 1000000 (z := 1000000) rfl (by omega) (by omega)
  obtain ⟨v, S4, e4, p4, x4, M, rfl, hM⟩ := draw_lit (fuel := fuel) (k := k + 2) p3 old_nil 7 (z := 7) rfl (by omega) (by omega)
  obtain ⟨pa, S5, e5, p5, x5, hpl, hpa⟩ := lc_draw2 (f := lturn (P.cx fuel (run P fuel (k + 3))) f_law_c1 (.n 5) .nil [some (.r n), some (.r p), some (.d (.int way)), some (.d (.int nu)), none, none, none, none, none]) (fun i : Nat => TV.one (.d (.int i))) (p := p) (fun v => ∃ i, v = .int i) (List.range M)
    (fun x _ S' hp => by
      obtain ⟨v, T, e1, p1, x1, i, rfl, _⟩ := draw_lit (fuel := fuel) (k := k + 2) hp old_nil 12 (z := 12) rfl (by omega) (by omega)
      exact ⟨_, T, by (simp -implicitDefEqProofs -dsimp [dS_seq, dS_for, dS_while, dX_lc, dL_lc, dS.eq_1, dS.eq_3, dS.eq_4, dS.eq_5, dS.eq_6, dS.eq_7, dS.eq_8, dS.eq_9, dS.eq_12, dS.eq_13, dS.eq_14, dS.eq_15, dS.eq_16, dX.eq_1, dX.eq_2, dX.eq_3, dX.eq_4, dX.eq_5, dX.eq_6, dX.eq_7, dX.eq_8, dX.eq_9, dX.eq_10, dX.eq_11, dX.eq_12, dX.eq_13, dX.eq_14, dX.eq_15, dX.eq_16, dX.eq_17, dX.eq_18, dX.eq_20, dX.eq_21, dX.eq_22, dX.eq_23, dX.eq_24, dX.eq_25, dX.eq_26, dX.eq_27, dX.eq_28, dX.eq_29, dX.eq_30, dX.eq_31, dL.eq_1, dEs.eq_1, dEs.eq_2, dEs.eq_3, dTs.eq_1, dTs.eq_2, dTs.eq_3, dFs.eq_1, dFs.eq_2, dFs.eq_3, dI.eq_1, dI.eq_2, dI.eq_3, dI.eq_4, dI.eq_5, dI.eq_6, dT.eq_def, op1.eq_def, op2.eq_def, cmpI.eq_def, isCall.eq_def, isCall2.eq_def, recv.eq_def, in_chr, in_strtup, in_inttup, in_nontup, in_bltup, eqW_d, eqW_r, truth.eq_def, isiW.eq_def, walkW.eq_def, pairW.eq_def, isStr.eq_def, isLst.eq_def, recvM.eq_def, List.lookup.eq_1, List.lookup.eq_2, seqOf.eq_def, extOf.eq_def, dseq.eq_def, slW.eq_def, part.eq_def, isNone.eq_def, fmt.eq_def, augW.eq_def, newL.eq_def, blR.eq_def, Guard.ok.eq_1, Guard.ok.eq_2, Ev.R.opt.eq_def, attW.eq_def, Function.comp_def, enumW_map, toD.eq_1, toD.eq_2, toD.eq_3, Ev.D.datL.eq_1, Ev.D.datL.eq_2, Ev.D.dat.eq_1, Ev.D.dat.eq_2, Ev.D.dat.eq_3, Ev.D.dat.eq_4, Ev.D.dat.eq_5, Ev.D.dat.eq_6, Ev.D.dat.eq_7, Ev.D.dat.eq_8, TV.put.eq_1, TV.put.eq_2, TV.put.eq_3, Ev.T.put.eq_1, Ev.T.put.eq_2, Ev.T.put.eq_3, Ev.T.putL.eq_1, Ev.T.putL.eq_2, Ev.T.putL.eq_3, Ev.T.ix.eq_1, Ev.T.ix.eq_2, Ev.T.ixL.eq_1, Ev.T.ixL.eq_2, forget.eq_1, forget.eq_2, ixN.eq_def, Ev.T.tup.eq_def, lturn.eq_def, f_law_c1.eq_1, lk__law_draw, e1]; (repeat rw [if_pos (by first | omega | (unfold LINE; omega) | (unfold LINE at *; omega))]); all_goals (first | rfl | exact ⟨rfl, rfl⟩ | exact ⟨rfl, rfl, rfl⟩ | exact ⟨rfl, rfl, rfl, rfl⟩ | (simp; done) | (unfold LINE; omega) | (unfold LINE at *; omega) | fail)), p1, x1, _, rfl⟩) S4 p4 (by simp; omega)
  simp only [List.length_range] at hpl
  have lp5 := p5.lt
  obtain ⟨v, S6, e6, p6, x6, nm, rfl, hnm⟩ := name_ok (fuel := fuel) (k := k + 1) (t := S5.length) (tk := []) (p5.app [.lst []]) old_nil (by omega) (by simp) (by simp) takenOk_nil
  obtain ⟨s, S7, e7, p7, hq, hs7⟩ := pick_some (fuel := fuel) (k := k + 1) (nm := nm) (pa := pa) p6
  have e8 := made_ok (fuel := fuel) (k := k + 2) (S := S7) s nu pa nm
  obtain ⟨ref, href⟩ : ∃ ref : Nat → Nat, ref = fun i => S7.length + OFF.getD i 0 := ⟨_, rfl⟩
  have H : ∀ i, i < 23 → ∃ x, (EX s nu pa nm)[i]? = some x ∧ x.1 = NS.getD i "" ∧ (S7 ++ madeU S7.length s nu pa nm)[ref i]? = some (.exc x.1 x.2) := fun i hi => by
    obtain ⟨x, a, b, c⟩ := madeU_at S7.length s nu pa nm i hi
    exact ⟨x, a, b, by rw [href, get_app]; exact c⟩
  have hm8 : (S7 ++ madeU S7.length s nu pa nm)[S7.length + 31]? = some (.lst ((List.range 23).map fun i => .r (ref i))) := by rw [href, get_app]; rfl
  clear href
  generalize hS8 : S7 ++ madeU S7.length s nu pa nm = S8 at e8 H hm8
  obtain ⟨m2, U2, e9, h9⟩ := fields_ok (fuel := fuel) (k := k + 2) (ref := ref) (s := s) (n := nu) (pa := pa) (nm := nm) hm8 (fun i x hx => by
    have hi : i < 23 := (List.getElem?_eq_some_iff.mp hx).1
    obtain ⟨y, a, _, c⟩ := H i hi
    rw [hx] at a
    cases a
    exact c)
  obtain ⟨m3, U3, e10, h10⟩ := due_ok (fuel := fuel) (k := k + 2) (S := S8 ++ U2) (s := s) (n := nu) (pa := pa) (nm := nm)
  have hpa100 : pa.length ≤ 100 := by omega
  have e11 := same_lst (fuel := fuel) (k := k + 1) (S := S8 ++ U2 ++ U3) (a := m2) (b := m3) (get_left h9 U3) h10 (by simp [dueL]; decide) fun w hw => due_same (k := k) (q := 0) (items_same (q := S6.length) (by
    rw [← hS8, List.append_assoc, List.append_assoc]
    exact get_left hq _) hpa hpa100 hs7) hpa hpa100 hw
  have e12 := fun S => raised_ok (fuel := fuel) (k := k + 2) (S := S) s nu nm hway
  obtain ⟨e', hw, w, rfl⟩ := for_pass (f := turn (P.cx fuel (run P fuel (k + 3))) (.n 5) f_law_b1) (fun i : Nat => TV.one (.d (.int i)))
    (fun e => ∃ w, e = [some (.r n), some (.r p), some (.d (.int way)), some (.d (.int nu)), some (.d (.tup pa)), w, some (.d (.str nm)), some s, some (.r (S7.length + 31))]) S8 (g := []) rfl (List.range 23)
    (fun x hx e ⟨w, he⟩ => by
      subst he
      have hx : x < 23 := by simpa using hx
      obtain ⟨y, _, b, c⟩ := H x hx
      rw [b] at c
      have ha := alone_ok (fuel := fuel) (k := k + 1) hx c
      have hix := idx_lst (i := x) hm8 (x := .r (ref x)) (by simp [hx])
      exact ⟨_, by (simp -implicitDefEqProofs -dsimp [dS_seq, dS_for, dS_while, dX_lc, dL_lc, dS.eq_1, dS.eq_3, dS.eq_4, dS.eq_5, dS.eq_6, dS.eq_7, dS.eq_8, dS.eq_9, dS.eq_12, dS.eq_13, dS.eq_14, dS.eq_15, dS.eq_16, dX.eq_1, dX.eq_2, dX.eq_3, dX.eq_4, dX.eq_5, dX.eq_6, dX.eq_7, dX.eq_8, dX.eq_9, dX.eq_10, dX.eq_11, dX.eq_12, dX.eq_13, dX.eq_14, dX.eq_15, dX.eq_16, dX.eq_17, dX.eq_18, dX.eq_20, dX.eq_21, dX.eq_22, dX.eq_23, dX.eq_24, dX.eq_25, dX.eq_26, dX.eq_27, dX.eq_28, dX.eq_29, dX.eq_30, dX.eq_31, dL.eq_1, dEs.eq_1, dEs.eq_2, dEs.eq_3, dTs.eq_1, dTs.eq_2, dTs.eq_3, dFs.eq_1, dFs.eq_2, dFs.eq_3, dI.eq_1, dI.eq_2, dI.eq_3, dI.eq_4, dI.eq_5, dI.eq_6, dT.eq_def, op1.eq_def, op2.eq_def, cmpI.eq_def, isCall.eq_def, isCall2.eq_def, recv.eq_def, in_chr, in_strtup, in_inttup, in_nontup, in_bltup, eqW_d, eqW_r, truth.eq_def, isiW.eq_def, walkW.eq_def, pairW.eq_def, isStr.eq_def, isLst.eq_def, recvM.eq_def, List.lookup.eq_1, List.lookup.eq_2, seqOf.eq_def, extOf.eq_def, dseq.eq_def, slW.eq_def, part.eq_def, isNone.eq_def, fmt.eq_def, augW.eq_def, newL.eq_def, blR.eq_def, Guard.ok.eq_1, Guard.ok.eq_2, Ev.R.opt.eq_def, attW.eq_def, Function.comp_def, enumW_map, toD.eq_1, toD.eq_2, toD.eq_3, Ev.D.datL.eq_1, Ev.D.datL.eq_2, Ev.D.dat.eq_1, Ev.D.dat.eq_2, Ev.D.dat.eq_3, Ev.D.dat.eq_4, Ev.D.dat.eq_5, Ev.D.dat.eq_6, Ev.D.dat.eq_7, Ev.D.dat.eq_8, TV.put.eq_1, TV.put.eq_2, TV.put.eq_3, Ev.T.put.eq_1, Ev.T.put.eq_2, Ev.T.put.eq_3, Ev.T.putL.eq_1, Ev.T.putL.eq_2, Ev.T.putL.eq_3, Ev.T.ix.eq_1, Ev.T.ix.eq_2, Ev.T.ixL.eq_1, Ev.T.ixL.eq_2, forget.eq_1, forget.eq_2, ixN.eq_def, Ev.T.tup.eq_def, turn.eq_def, f_law_b1.eq_1, ↓hix, lk__law_alone, ha]; (repeat rw [if_pos (by first | omega | (unfold LINE; omega) | (unfold LINE at *; omega))]); all_goals (first | rfl | exact ⟨rfl, rfl⟩ | exact ⟨rfl, rfl, rfl⟩ | exact ⟨rfl, rfl, rfl, rfl⟩ | (simp; done) | (unfold LINE; omega) | (unfold LINE at *; omega) | fail)), _, rfl⟩)
    [some (.r n), some (.r p), some (.d (.int way)), some (.d (.int nu)), some (.d (.tup pa)), none, some (.d (.str nm)), some s, some (.r (S7.length + 31))] ⟨_, rfl⟩
  have hS : ∃ T, dS (P.cx fuel (run P fuel (k + 3))) f_law.body [some (.r n), none, none, none, none, none, none, none, none] S = .ok (.rt (.d (.bl true))) T := by
    have hrng : rangeW 0 M = (List.range M).map fun i : Nat => TV.one (.d (.int i)) := rangeW_nat M
    have hr23 : rangeW 0 23 = (List.range 23).map fun i : Nat => TV.one (.d (.int i)) := rangeW_nat 23
    have B1 : -4611686018427387904 ≤ (M : Int) ∧ (M : Int) < 4611686018427387904 := by omega
    have L1 : pa.length ≤ LINE := by unfold LINE; omega
    have hlen : op1 .len (.r (S7.length + 31)) S8 = .ok (.d (.int 23)) S8 := by simp [op1, seqOf, hm8]
    have hix : ∀ S, op2 .idx (.d (.tup [.int 0, .int 19, .int 22, .int 14])) (.d (.int way)) S = .ok (.d (.int ([0, 19, 22, 14].getD way 0))) S := fun S => idx_tupD (by
      have : way = 0 ∨ way = 1 ∨ way = 2 ∨ way = 3 := by omega
      rcases this with rfl | rfl | rfl | rfl <;> rfl)
    simp only [items] at e7
    rw [List.append_assoc] at e11
    exact ⟨_, by (simp -implicitDefEqProofs -dsimp [dS_seq, dS_for, dS_while, dX_lc, dL_lc, dS.eq_1, dS.eq_3, dS.eq_4, dS.eq_5, dS.eq_6, dS.eq_7, dS.eq_8, dS.eq_9, dS.eq_12, dS.eq_13, dS.eq_14, dS.eq_15, dS.eq_16, dX.eq_1, dX.eq_2, dX.eq_3, dX.eq_4, dX.eq_5, dX.eq_6, dX.eq_7, dX.eq_8, dX.eq_9, dX.eq_10, dX.eq_11, dX.eq_12, dX.eq_13, dX.eq_14, dX.eq_15, dX.eq_16, dX.eq_17, dX.eq_18, dX.eq_20, dX.eq_21, dX.eq_22, dX.eq_23, dX.eq_24, dX.eq_25, dX.eq_26, dX.eq_27, dX.eq_28, dX.eq_29, dX.eq_30, dX.eq_31, dL.eq_1, dEs.eq_1, dEs.eq_2, dEs.eq_3, dTs.eq_1, dTs.eq_2, dTs.eq_3, dFs.eq_1, dFs.eq_2, dFs.eq_3, dI.eq_1, dI.eq_2, dI.eq_3, dI.eq_4, dI.eq_5, dI.eq_6, dT.eq_def, op1.eq_def, op2.eq_def, cmpI.eq_def, isCall.eq_def, isCall2.eq_def, recv.eq_def, in_chr, in_strtup, in_inttup, in_nontup, in_bltup, eqW_d, eqW_r, truth.eq_def, isiW.eq_def, walkW.eq_def, pairW.eq_def, isStr.eq_def, isLst.eq_def, recvM.eq_def, List.lookup.eq_1, List.lookup.eq_2, seqOf.eq_def, extOf.eq_def, dseq.eq_def, slW.eq_def, part.eq_def, isNone.eq_def, fmt.eq_def, augW.eq_def, newL.eq_def, blR.eq_def, Guard.ok.eq_1, Guard.ok.eq_2, Ev.R.opt.eq_def, attW.eq_def, Function.comp_def, enumW_map, toD.eq_1, toD.eq_2, toD.eq_3, Ev.D.datL.eq_1, Ev.D.datL.eq_2, Ev.D.dat.eq_1, Ev.D.dat.eq_2, Ev.D.dat.eq_3, Ev.D.dat.eq_4, Ev.D.dat.eq_5, Ev.D.dat.eq_6, Ev.D.dat.eq_7, Ev.D.dat.eq_8, TV.put.eq_1, TV.put.eq_2, TV.put.eq_3, Ev.T.put.eq_1, Ev.T.put.eq_2, Ev.T.put.eq_3, Ev.T.putL.eq_1, Ev.T.putL.eq_2, Ev.T.putL.eq_3, Ev.T.ix.eq_1, Ev.T.ix.eq_2, Ev.T.ixL.eq_1, Ev.T.ixL.eq_2, forget.eq_1, forget.eq_2, ixN.eq_def, Ev.T.tup.eq_def, f_law.eq_1, f_law_s1.eq_1, lk__law_pool, e1, f_law_s2.eq_1, lk__law_draw, e2, f_law_s3.eq_1, e3, f_law_s4.eq_1, e4, B62.eq_def, B1, ↓hrng, e5, L1, f_law_s5.eq_1, lk__law_name, e6, f_law_s6.eq_1, lk__law_pick, e7, f_law_s7.eq_1, lk__law_made, e8, f_law_s8.eq_1, ↓hlen, ↓hr23, hw, f_law_s9.eq_1, lk__law_same, lk__law_fields, e9, lk__law_due, e10, e11, f_law_s10.eq_1, lk__law_raised, e12, ↓hix]; (repeat rw [if_pos (by first | omega | (unfold LINE; omega) | (unfold LINE at *; omega))]); all_goals (first | rfl | exact ⟨rfl, rfl⟩ | exact ⟨rfl, rfl, rfl⟩ | exact ⟨rfl, rfl, rfl, rfl⟩ | (simp; done) | (unfold LINE; omega) | (unfold LINE at *; omega) | fail))⟩
  obtain ⟨T, hS⟩ := hS
  rw [run_law, hS]
  simp only [fin, gcW]
  cases old S.length T S with
  | none => exact ⟨_, rfl⟩
  | some U => exact ⟨_, rfl⟩
end Ev
end

section
set_option Elab.async false
set_option linter.all false
set_option maxRecDepth 100000
set_option maxHeartbeats 0
/-! the head, the row. -/
namespace Ev.H
open PySem PySem.W PySem.Calls PyProof.Rows
abbrev R : OpenRow := OpenLaw.row PySem.Challenge.rw_onesession_k90_errors_apart
abbrev qv : Program := view R.prog [39]
def names : List PySem.Str := ([PySem.Str.ofString "SessionError", PySem.Str.ofString "InvalidExpr", PySem.Str.ofString "InvalidApp", PySem.Str.ofString "NoPart", PySem.Str.ofString "InvalidRule", PySem.Str.ofString "BadDeed", PySem.Str.ofString "BadFault", PySem.Str.ofString "NoSlot", PySem.Str.ofString "BatchRefused", PySem.Str.ofString "NothingToUndo", PySem.Str.ofString "NothingToRedo", PySem.Str.ofString "BadJournal", PySem.Str.ofString "NotSaved", PySem.Str.ofString "InvalidWindows", PySem.Str.ofString "NoFault", PySem.Str.ofString "InvalidParts", PySem.Str.ofString "InvalidBound", PySem.Str.ofString "LimitExceeded", PySem.Str.ofString "NoStanding", PySem.Str.ofString "InvalidKind", PySem.Str.ofString "NotComparable", PySem.Str.ofString "InvalidRules", PySem.Str.ofString "InvalidChange", PySem.Str.ofString "InvalidText", PySem.Str.ofString "_law_pool", PySem.Str.ofString "_law_draw", PySem.Str.ofString "_law_pick", PySem.Str.ofString "_law_name", PySem.Str.ofString "_law_names", PySem.Str.ofString "_law_same", PySem.Str.ofString "_law_first", PySem.Str.ofString "_law_second", PySem.Str.ofString "_law_alone", PySem.Str.ofString "_law_made", PySem.Str.ofString "_law_fields"] : List PySem.Str) ++ ([PySem.Str.ofString "_law_due", PySem.Str.ofString "_law_raised"] : List PySem.Str)
def AS : List Nat := [2, 3, 6, 4, 24, 46, 67, 88, 109, 130, 151, 172, 193, 205, 217, 238, 250, 271, 292, 313, 334, 355, 367, 388, 409, 421, 442, 463, 470, 477, 484, 491, 498, 503, 510, 517, 524, 531, 538, 545, 552, 557, 0, 23, 45, 66, 87, 108, 129, 150, 171, 192, 204, 216, 237, 249, 270, 291, 312, 333, 354, 366, 387, 408, 420, 441, 462, 469, 476, 483, 490, 497, 502, 509, 516, 523, 530, 537, 544, 551, 556, 22, 25, 43, 44, 64, 65, 85, 86, 106, 107, 127, 128, 148, 149, 169, 170, 190, 191, 203, 215, 235, 236, 248, 268, 269, 289, 290, 310, 311, 331, 332, 352, 353, 365, 385, 386, 406, 407, 419, 439, 440, 460, 461, 466, 467, 468, 471, 472, 473, 474, 475, 478, 479, 480, 481, 482, 485, 486, 487, 488, 489, 492, 493, 494, 495, 496, 499, 500, 501, 504, 505, 506, 507, 508, 511, 512, 513, 514, 515, 518, 519, 520, 521, 522, 525, 526, 527, 528, 529, 532, 533, 534, 535, 536, 539, 540, 541, 542, 543, 546, 547, 548, 549, 550, 553, 554, 555, 42, 31, 63, 52, 84, 73, 105, 94, 126, 115, 147, 136, 168, 157, 189, 178, 234, 223, 267, 256, 288, 277, 309, 298, 330, 319, 351, 340, 384, 373, 405, 394, 438, 427, 459, 448, 37, 38, 39, 40, 41, 58, 59, 60, 61, 62, 79, 80, 81, 82, 83, 100, 101, 102, 103, 104, 121, 122, 123, 124, 125, 142, 143, 144, 145, 146, 163, 164, 165, 166, 167, 184, 185, 186, 187, 188, 229, 230, 231, 232, 233, 262, 263, 264, 265, 266, 283, 284, 285, 286, 287, 304, 305, 306, 307, 308, 325, 326, 327, 328, 329, 346, 347, 348, 349, 350, 379, 380, 381, 382, 383, 400, 401, 402, 403, 404, 433, 434, 435, 436, 437, 454, 455, 456, 457, 458]
def fnT (K : Frag) (x : (String × String) × Fn) : Bool := fnB K ((nmM K).fnA x.1.1 x.1.2) x.2 (((PN.lookup x.1).getD []).map sx) && (x.1.2 == "__init__" || psB K ((nmM K).fnA x.1.1 x.1.2) none [])
abbrev exA : Frag → Bool := fun K => P.fns.all (fnT K) && (okDefs P K && (okGlobs P K && (okFlds P K && okMks P K)))
abbrev exB : Frag → Bool := fun K => (P.exns.take 12).all fun x => okExn P PySem.Challenge.pw_onesession_k90_errors_apart K x
abbrev exC : Frag → Bool := fun K => (P.exns.drop 12).all fun x => okExn P PySem.Challenge.pw_onesession_k90_errors_apart K x
abbrev exF : Frag → Bool := fun K => exA K && (exB K && exC K)
theorem exF_ok {K : Frag} (h : exF K = true) : okB P PN PySem.Challenge.pw_onesession_k90_errors_apart K = true := by
  obtain ⟨h1, h2⟩ := Bool.and_eq_true_iff.mp h
  obtain ⟨h2, h3⟩ := Bool.and_eq_true_iff.mp h2
  obtain ⟨a1, h1⟩ := Bool.and_eq_true_iff.mp h1
  obtain ⟨a2, h1⟩ := Bool.and_eq_true_iff.mp h1
  obtain ⟨a3, h1⟩ := Bool.and_eq_true_iff.mp h1
  obtain ⟨a4, a6⟩ := Bool.and_eq_true_iff.mp h1
  have a5 : okExns P PySem.Challenge.pw_onesession_k90_errors_apart K = true := by
    show (P.exns.all fun x => okExn P PySem.Challenge.pw_onesession_k90_errors_apart K x) = true
    rw [← List.take_append_drop 12 P.exns, List.all_append]
    exact Bool.and_eq_true_iff.mpr ⟨h2, h3⟩
  exact Bool.and_eq_true_iff.mpr ⟨a1, Bool.and_eq_true_iff.mpr ⟨a2, Bool.and_eq_true_iff.mpr ⟨a3, Bool.and_eq_true_iff.mpr ⟨a4, Bool.and_eq_true_iff.mpr ⟨a5, a6⟩⟩⟩⟩⟩
theorem runA (w : PySem.World) : HandSHeadRun.RunEq R qv (hookN AS exA) (fun s => obsN AS exA (HandSHeadRun.getT s)) 12000 names w := by
  intro os
  kernel_rfl
theorem runB (w : PySem.World) : HandSHeadRun.RunEq R qv (hookN AS exB) (fun s => obsN AS exB (HandSHeadRun.getT s)) 12000 names w := by
  intro os
  kernel_rfl
theorem runC (w : PySem.World) : HandSHeadRun.RunEq R qv (hookN AS exC) (fun s => obsN AS exC (HandSHeadRun.getT s)) 12000 names w := by
  intro os
  kernel_rfl
theorem lawE (ns : List Int) : ∃ T, Ev.run P 20 13 "" "law" [.r 0] [.fro (ns.map fun x => Ev.W.d (.int x))] = .ok (.d (.bl true)) T :=
  law_ok (fuel := 20) (k := 9) 0 ns rfl
abbrev dR : DefRec := HandSHeadRun.topDef R.prog 39
theorem f1 : opening R.prog = plainProg R.prog.main.scope.names := by kernel_rfl
theorem f2 (s) : fenceModules? R.prog s = some s := by kernel_rfl
theorem f3 : defOf qv R.name = some (dR, []) := by kernel_rfl
theorem f4 : R.prog.theDef R.name = some (dR.params, dR.body, dR.scope) := by kernel_rfl
theorem f5 : kwWritten? dR.params.kwonlyargs dR.params.kw_defaults = some [] := by kernel_rfl
theorem f6 : (!R.writes || R.records.isEmpty) = true := by kernel_rfl
theorem f8 : (chainsOk qv && opensWell R.prog && (frees R.toRowW && R.within.isEmpty)) = true := by decide +kernel
theorem f9 : R.prog.bare := ⟨rfl, rfl, rfl, rfl, rfl, by decide +kernel⟩
theorem f10 : R.toRowW.promised := by w_witness2
theorem f11 : dR.params.defaults = [] := by kernel_rfl
theorem f12 : dR.name = Ev.sx "law" := by kernel_rfl
theorem hob (s : SharedT) : (fun s : SharedT => obsN AS exF (HandSHeadRun.getT s)) s = (hookN AS exF).obs s.abs := obsN_eq (HandSHeadRun.getT_eq s)
theorem runF (w : PySem.World) : HandSHeadRun.RunEq R qv (hookN AS exF) (fun s => obsN AS exF (HandSHeadRun.getT s)) 12000 names w := run_and (e1 := exA) (e2 := fun K => exB K && exC K) (runA w) (run_and (e1 := exB) (e2 := exC) (runB w) (runC w))
theorem room : L2.Room 26 callerA := ⟨rfl, by decide, by decide⟩
theorem hF (w : PySem.World) (mg : PySem.Str → Option Value) (fa : Addr) (h : Heap) (Y : (hookN AS exF).says w h) (G : h.Ns mainGlobals mg) (hmg0 : mg dR.name = some (.ref fa)) :
    ∃ (K : PySem.W.Frag) (fd : FuncData) (sp : L2.Sp), K.In h ∧ (∀ (s : Shared) (u : Value), BindsTo s fd ⟨[u], []⟩ [(Ev.sx "_law_script", u)]) ∧
        (∀ (H : L2.Hp) (a : Addr) (ns : List Int), ns.length ≤ 63 → L2.Only H → L2.SqL K H a (ns.map L2.V.int) → sp [.ref a] H (fun v _ => v = .bl true) fun _ _ _ => False) ∧
        ∀ base : Heap, K.In base → base.Ns mainGlobals mg → L2.FnOk PySem.Challenge.rw_onesession_k90_errors_apart.prog w K mg base (L2.CX PySem.Challenge.rw_onesession_k90_errors_apart.prog w) 26 fa fd [Ev.sx "_law_script"] sp := by
  obtain ⟨K, KX, nl, c⟩ := Y
  rw [f12] at hmg0
  exact Ev.end_ok (P := P) (PN := PN) (prog := PySem.Challenge.rw_onesession_k90_errors_apart.prog) (fuel := 20) (k := 13) KX G nl (exF_ok c) lk_law rfl rfl hmg0 lawE
theorem hc : WalkO qv names (XL qv []) (hookN AS exF).says R.toRowW dR [] (fun f vs => PySem.call f vs) :=
  Ev.walk_ofW (l := PySem.Challenge.rw_onesession_k90_errors_apart) (n := 63) (k := 26) (x := Ev.sx "_law_script") (CX := fun w => L2.CX PySem.Challenge.rw_onesession_k90_errors_apart.prog w) rfl (by decide) f11 room hF (fun w => Ev.CX_no w)
theorem head (k1 : R.wellSaid = true) : R.Holds :=
  HandSHeadRun.head_any (r := R) (q := qv) (H := hookN AS exF) (ob := fun s => obsN AS exF (HandSHeadRun.getT s)) (M := 12000) (loose := names) (d := dR) (kwd := []) hob f1 f2 runF f3 f4 f5 f6 k1 f8 f9 f10 hc
end Ev.H
open PySem PySem.W PySem.Calls PyProof.Rows
theorem PySem.Challenge.cw_onesession_k90_errors_apart_holds : PySem.Challenge.rw_onesession_k90_errors_apart.Holds := by
  w_on; o_law
  exact Ev.H.head (by assumption)
end
