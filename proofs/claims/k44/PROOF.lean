import PyProof.Rows.All
import Wide.All
import OpenK.AllK
import Wide.FinOn
import HandS.ForMost
import HandS.Style
import HandS.IsInst
import HandS.Deep
import HandS.TryOnly
import HandS.Comp
import HandS.SetFor
import HandS.Strs
import HandS.Set
import HandS.Iter
import KE.GoesMore
import PyProof.Draws
import HandS.Codes
import HandS.OwnEq
import HandS.Defaults
import HandS.SortInts
import HandS.TupAny
import HandS.Conv
import HandS.Flow
import HandS.Head0
import HandS.Head1
import HandS.Head2
import HandS.HeadEnd
import HandS.HeadHook1
import HandS.HeadHook2
import HandS.HeadHook3
import HandS.HeadHook4
import KE.KStateDown
import PySem.Challenge.RW_oneshelf_k44_whole_thresholds_and_shower
set_option Elab.async false
set_option linter.all false
set_option maxRecDepth 100000
set_option maxHeartbeats 0
/-! The D machine: Python data as trees, mini syntax, meaning. -/
namespace Dm
open PySem L2

inductive D where
  | non | bl (b : Bool) | int (i : Int) | str (x : Str)
  | tup (xs : List D) | lst (xs : List D)
  | obj (c : Nat) (fs : List D)
  | scr (ns : List Int)
  deriving Inhabited

mutual
def D.py : D → PyData
  | .non => .none
  | .bl b => .bool b
  | .int i => .int i
  | .str x => .str x
  | .tup xs => .tuple (D.pys xs)
  | .lst xs => .list (D.pys xs)
  | .obj _ _ => .dict []
  | .scr _ => .dict []
def D.pys : List D → List PyData
  | [] => []
  | x :: xs => D.py x :: D.pys xs
end

/-- what is owned: a value that nobody owns, a flat list, a list of flat lists, an object that is being made -/
inductive OD where
  | leaf (d : D)
  | fl (ds : List D)
  | ll (dss : List (List D))
  | oobj (c : Nat) (fs : List D)
  | nl (os : List OD)
  | nt (os : List OD)
  deriving Inhabited
mutual
def OD.toD : OD → D
  | .leaf d => d
  | .fl ds => .lst ds
  | .ll dss => .lst (dss.map D.lst)
  | .oobj c fs => .obj c fs
  | .nl os => .lst (OD.toDs os)
  | .nt os => .tup (OD.toDs os)
def OD.toDs : List OD → List D
  | [] => []
  | o :: os => o.toD :: OD.toDs os
end
def OD.leafD : OD → Option D
  | .leaf d => some d
  | o => some o.toD

inductive Slot where
  | no | val (d : D) | own (o : OD) | ref (j : Nat) | pin (d : D) (j : Nat)
  deriving Inhabited

structure St where
  L : List Slot
  S : List OD

abbrev M (α : Type) := St → Option (α × St)
def ret {α : Type} (a : α) : M α := fun s => some (a, s)
def bnd {α β : Type} (m : M α) (k : α → M β) : M β := fun s => match m s with | none => none | some (a, s') => k a s'
def fail {α : Type} : M α := fun _ => none
def ofO {α : Type} : Option α → M α
  | some a => ret a
  | none => fail

/-! ### mini syntax -/
/-- classes for isinstance -/
inductive Ty where
  | int | bool | str | list | tuple
  deriving DecidableEq
/-- methods that change a list -/
inductive Mm where
  | append | extend | pop | clear | reverse
  deriving DecidableEq
def Mm.nm : Mm → Str
  | .append => "append" | .extend => "extend" | .pop => "pop" | .clear => "clear" | .reverse => "reverse"
inductive Bi where
  | divmod | len | abs | max2 | min2 | int | all | any | sum | maxL | tuple | list
  deriving DecidableEq
def Bi.nm : Bi → Str
  | .divmod => "divmod" | .len => "len" | .abs => "abs" | .max2 => "max" | .min2 => "min" | .int => "int" | .all => "all" | .any => "any" | .sum => "sum" | .maxL => "max" | .tuple => "tuple" | .list => "list"
def Ty.nm : Ty → Str
  | .int => "int" | .bool => "bool" | .str => "str" | .list => "list" | .tuple => "tuple"

mutual
inductive E where
  | var (i : Nat) (x : Str) (p : Pos)
  | bv (i : Nat) (x : Str) (p : Pos)
  | con (c : Const) (k : Nat) (p : Pos)
  | glo (g : Nat) (x : Str) (p : Pos)
  | tup (es : Es) (k : Nat) (p : Pos)
  | lst (es : Es) (p : Pos)
  | bin (a : E) (op : Operator) (b : E) (p : Pos)
  | una (op : UnaryOp) (a : E) (p : Pos)
  | bop (op : BoolOp) (e : E) (es : Es) (p : Pos)
  | cmp (a : E) (op : CmpOp) (b : E) (p : Pos)
  | cmp2 (a : E) (op : CmpOp) (b : E) (op' : CmpOp) (c : E) (p : Pos)
  | ife (c a b : E) (p : Pos)
  | sub (a i : E) (p : Pos)
  | att (a : E) (k : Nat) (f : Str) (p : Pos)
  | bi1 (b : Bi) (p : Pos) (e : E) (q : Pos)
  | bi2 (b : Bi) (p : Pos) (e e' : E) (q : Pos)
  | conv (b : Bi) (p : Pos) (e : E) (q : Pos)
  | mth0 (m : Mm) (j : Nat) (x : Str) (p1 p2 p3 : Pos)
  | mth1 (m : Mm) (j : Nat) (x : Str) (p1 p2 : Pos) (e : E) (p3 : Pos)
  | isi (a : E) (t : Ty) (p1 p2 p3 : Pos)
  | call (f : Nat) (x : Str) (p : Pos) (as : As) (q : Pos)
  | callT (f : Nat) (x : Str) (p : Pos) (g : Nat) (y : Str) (p' : Pos) (as : As) (q' q : Pos)
  | new (k : Nat) (f : Nat) (x : Str) (p : Pos) (as : As) (q : Pos)
  | comp (elt : E) (t : Tg) (it : Wk) (ifs : Es) (sc : Scope) (own : List (Str × Nat)) (p : Pos)
  | compN (elt : E) (cs : Cs) (sc : Scope) (own : List (Str × Nat)) (p : Pos)
  | ss (p1 p2 : Pos) (e : E) (q2 q1 : Pos)
  | sne (p1 : Pos) (a : E) (q1 p2 : Pos) (b : E) (q2 q : Pos)
  | idx (a : E) (p : Pos) (e : E) (q : Pos)
  | sl (a : E) (lo hi : EO) (p q : Pos)
  | lrng (p1 p2 : Pos) (e : E) (q2 q1 : Pos)
  | isiT (a : E) (ts : List (Ty × Pos)) (k : Nat) (p1 p2 p3 : Pos)
  | isiC (a : E) (k : Nat) (x : Str) (p1 p2 p3 : Pos)
  | callK (f : Nat) (x : Str) (p : Pos) (ks : Ks) (n : Nat) (π : List Nat) (q : Pos)
  | lenO (k f : Nat) (p : Pos) (e : E) (q : Pos)
  | eqO (k f : Nat) (a b : E) (p : Pos)
  | srt (p : Pos) (e : E) (q : Pos)
  | rev (a : E) (k : Nat) (p1 p2 p3 q : Pos)
  | nna (j : Nat) (x : Str) (p1 : Pos) (k kk : Nat) (pk p2 : Pos) (neg : Bool) (kn : Nat) (pn p3 : Pos)
/-- a part of a slice -/
inductive EO where
  | no
  | yes (e : E)
/-- keywords -/
inductive Ks where
  | nil
  | cons (x : Str) (e : E) (p : Pos) (ks : Ks)
/-- clauses -/
inductive Cs where
  | nil
  | cons (t : Tg) (it : Wk) (ifs : Es) (cs : Cs)
inductive Es where
  | nil
  | cons (e : E) (es : Es)
inductive As where
  | nil
  | val (e : E) (as : As)
  | share (i : Nat) (x : Str) (p : Pos) (as : As)
/-- what is walked -/
inductive Wk where
  | e (a : E)
  | rng (a : E) (p q : Pos)
  | rng2 (a b : E) (p q : Pos)
  | enu (a : E) (p q : Pos)
/-- targets -/
inductive Tg where
  | nm (i : Nat) (x : Str) (p : Pos)
  | tp (ts : Tgs) (k : Nat) (p : Pos)
inductive Tgs where
  | nil
  | cons (t : Tg) (ts : Tgs)
end

/-! ### to the kit's syntax -/
mutual
def E.py : E → Expr
  | .var _ x p => .Name x p
  | .bv _ x p => .Name x p
  | .con c k p => .Constant c k p
  | .glo _ x p => .Name x p
  | .tup es k p => .Tuple es.py k p
  | .lst es p => .List es.py p
  | .bin a op b p => .BinOp a.py op b.py p
  | .una op a p => .UnaryOp op a.py p
  | .bop op e es p => .BoolOp op (e.py :: es.py) p
  | .cmp a op b p => .Compare a.py [op] [b.py] p
  | .cmp2 a op b op' c p => .Compare a.py [op, op'] [b.py, c.py] p
  | .ife c a b p => .IfExp c.py a.py b.py p
  | .sub a i p => .Subscript a.py i.py p
  | .att a _ f p => .Attribute a.py f p
  | .bi1 b p e q => .Call (.Name b.nm p) [e.py] [] q
  | .bi2 b p e e' q => .Call (.Name b.nm p) [e.py, e'.py] [] q
  | .conv b p e q => .Call (.Name b.nm p) [e.py] [] q
  | .mth0 m _ x p1 p2 p3 => .Call (.Attribute (.Name x p1) m.nm p2) [] [] p3
  | .mth1 m _ x p1 p2 e p3 => .Call (.Attribute (.Name x p1) m.nm p2) [e.py] [] p3
  | .isi a t p1 p2 p3 => .Call (.Name "isinstance" p1) [a.py, .Name t.nm p2] [] p3
  | .call _ x p as q => .Call (.Name x p) as.py [] q
  | .callT _ x p _ y p' as q' q => .Call (.Name x p) [.Call (.Name y p') as.py [] q'] [] q
  | .new _ _ x p as q => .Call (.Name x p) as.py [] q
  | .comp elt t it ifs sc _ p => .ListComp elt.py [⟨t.py, it.py, ifs.py, 0⟩] sc p
  | .compN elt cs sc _ p => .ListComp elt.py cs.py sc p
  | .ss p1 p2 e q2 q1 => .Call (.Name "sorted" p1) [.Call (.Name "set" p2) [e.py] [] q2] [] q1
  | .sne p1 a q1 p2 b q2 q => .Compare (.Call (.Name "set" p1) [a.py] [] q1) [.NotEq] [.Call (.Name "set" p2) [b.py] [] q2] q
  | .idx a p e q => .Call (.Attribute a.py "index" p) [e.py] [] q
  | .sl a lo hi p q => .Subscript a.py (.Slice lo.py hi.py none p) q
  | .lrng p1 p2 e q2 q1 => .Call (.Name "list" p1) [.Call (.Name "range" p2) [e.py] [] q2] [] q1
  | .isiT a ts k p1 p2 p3 => .Call (.Name "isinstance" p1) [a.py, .Tuple (ts.map fun t => .Name t.1.nm t.2) k p2] [] p3
  | .isiC a _ x p1 p2 p3 => .Call (.Name "isinstance" p1) [a.py, .Name x p2] [] p3
  | .callK _ x p ks _ _ q => .Call (.Name x p) [] ks.py q
  | .lenO _ _ p e q => .Call (.Name "len" p) [e.py] [] q
  | .eqO _ _ a b p => .Compare a.py [.Eq] [b.py] p
  | .srt p e q => .Call (.Name "sorted" p) [e.py] [] q
  | .nna _ x p1 k kk pk p2 neg kn pn p3 => .Compare (.Subscript (.Name x p1) (.Constant (.int k) kk pk) p2) [if neg then .IsNot else .Is] [.Constant .none kn pn] p3
  | .rev a k p1 p2 p3 q => .Subscript a.py (.Slice none none (some (.UnaryOp .USub (.Constant (.int 1) k p1) p2)) p3) q
def EO.py : EO → Option Expr
  | .no => none
  | .yes e => some e.py
def Ks.py : Ks → List Keyword
  | .nil => []
  | .cons x e p ks => ⟨some x, e.py, p⟩ :: ks.py
def Cs.py : Cs → List Comprehension
  | .nil => []
  | .cons t it ifs cs => ⟨t.py, it.py, ifs.py, 0⟩ :: cs.py
def Es.py : Es → List Expr
  | .nil => []
  | .cons e es => e.py :: es.py
def As.py : As → List Expr
  | .nil => []
  | .val e as => e.py :: as.py
  | .share _ x p as => .Name x p :: as.py
def Wk.py : Wk → Expr
  | .e a => a.py
  | .rng a p q => .Call (.Name "range" p) [a.py] [] q
  | .rng2 a b p q => .Call (.Name "range" p) [a.py, b.py] [] q
  | .enu a p q => .Call (.Name "enumerate" p) [a.py] [] q
def Tg.py : Tg → Expr
  | .nm _ x p => .Name x p
  | .tp ts k p => .Tuple ts.py k p
def Tgs.py : Tgs → List Expr
  | .nil => []
  | .cons t ts => t.py :: ts.py
end

/-! ### operations on data -/
def D.tr : D → Option Bool
  | .bl b => some b
  | _ => none
def eqD (a b : D) : Option Bool := if SeqAt.shaped a.py && SeqAt.shaped b.py then some (PyData.eqv a.py b.py) else none
def cmpI (f : Int → Int → Bool) : D → D → Option D
  | .int i, .int j => some (.bl (f i j))
  | _, _ => none
def inD (a : D) (xs : List D) : Option Bool :=
  if SeqAt.shaped a.py && SeqAt.shaped (D.lst xs).py then some (xs.any fun z => PyData.eqv z.py a.py) else none
def inTD (a : D) (xs : List D) : Option Bool :=
  if SeqAt.shaped a.py && SeqAt.shaped (D.tup xs).py then some (xs.any fun z => PyData.eqv z.py a.py) else none
def isD : D → D → Option Bool
  | .non, .non => some true
  | _, .non => some false
  | .bl a, .bl b => some (a == b)
  | .non, .bl _ => some false
  | .int _, .bl _ => some false
  | .str _, .bl _ => some false
  | _, _ => none
def cmpD (op : CmpOp) (a b : D) : Option D :=
  match op with
  | .Eq => (eqD a b).map .bl
  | .NotEq => (eqD a b).map fun c => .bl !c
  | .Lt => cmpI (fun i j => decide (i < j)) a b
  | .LtE => cmpI (fun i j => decide (i ≤ j)) a b
  | .Gt => cmpI (fun i j => decide (j < i)) a b
  | .GtE => cmpI (fun i j => decide (j ≤ i)) a b
  | .Is => (isD a b).map .bl
  | .IsNot => (isD a b).map fun c => .bl !c
  | .In => match b with | .lst xs => (inD a xs).map .bl | .tup xs => (inTD a xs).map .bl | _ => none
  | .NotIn => match b with | .lst xs => (inD a xs).map fun c => .bl !c | _ => none
def binD (op : Operator) (a b : D) : Option D :=
  match op, a, b with
  | .Add, .int i, .int j => some (.int (i + j))
  | .Sub, .int i, .int j => some (.int (i - j))
  | .Mult, .int i, .int j => if -(2 ^ 64) < i ∧ i < 2 ^ 64 ∨ -(2 ^ 64) < j ∧ j < 2 ^ 64 then some (.int (i * j)) else none
  | .FloorDiv, .int i, .int j => if 0 < j ∧ j < 2 ^ 30 then some (.int (i / j)) else none
  | .Mod, .int i, .int j => if 0 < j then some (.int (i % j)) else none
  | .Pow, .int i, .int j => if 0 ≤ j ∧ j ≤ 1000000 ∧ i.natAbs < 2 ^ 64 then some (.int (i ^ j.toNat)) else none
  | .Add, .lst xs, .lst ys => if xs.length + ys.length ≤ sizeLine then some (.lst (xs ++ ys)) else none
  | .Mult, .lst xs, .int k => if -(2 ^ 63) ≤ k ∧ k < 2 ^ 63 ∧ xs.length * k.toNat ≤ sizeLine then some (.lst (List.replicate k.toNat xs).flatten) else none
  | _, _, _ => none
def unD (op : UnaryOp) (a : D) : Option D :=
  match op, a with
  | .USub, .int i => some (.int (-i))
  | _, _ => none
def ixD (a i : D) : Option D :=
  match a, i with
  | .lst xs, .int i => atI xs i
  | .tup xs, .int i => atI xs i
  | .scr xs, .int i => (atI xs i).map D.int
  | _, _ => none
def isiD (a : D) (t : Ty) : Option Bool :=
  match a, t with
  | .obj _ _, _ => none
  | .scr _, _ => none
  | .bl _, .int => some true
  | .bl _, .bool => some true
  | .int _, .int => some true
  | .str _, .str => some true
  | .lst _, .list => some true
  | .tup _, .tuple => some true
  | _, _ => some false
def allBl : List D → Option (List Bool)
  | [] => some []
  | .bl b :: r => (allBl r).map (b :: ·)
  | _ => none
def allI : List D → Option (List Int)
  | [] => some []
  | .int b :: r => (allI r).map (b :: ·)
  | _ => none
def maxI : List Int → Int
  | [] => 0
  | [a] => a
  | a :: r => max a (maxI r)
def bi1D (b : Bi) (d : D) : Option D :=
  match b, d with
  | .len, .lst xs => some (.int xs.length)
  | .len, .tup xs => some (.int xs.length)
  | .len, .scr xs => some (.int xs.length)
  | .abs, .int i => some (.int (if i < 0 then -i else i))
  | .int, .int i => some (.int i)
  | .int, .bl k => some (.int (if k then 1 else 0))
  | .all, .lst xs => (allBl xs).map fun bs => .bl (bs.all id)
  | .any, .lst xs => (allBl xs).map fun bs => .bl (bs.any id)
  | .sum, .lst xs => (allI xs).map fun bs => .int bs.sum
  | .maxL, .lst (x :: xs) => (allI (x :: xs)).map fun bs => .int (maxI bs)
  | _, _ => none
def bi2D (b : Bi) (d d' : D) : Option D :=
  match b, d, d' with
  | .max2, .int i, .int j => some (.int (if j > i then j else i))
  | .min2, .int i, .int j => some (.int (if j < i then j else i))
  | .divmod, .int i, .int j => if 0 < j ∧ j < 1073741824 then some (.tup [.int (i / j), .int (i % j)]) else none
  | _, _, _ => none
/-- list(..), tuple(..) of a value -/
def convD (b : Bi) (d : D) : Option D :=
  match b, d with
  | .tuple, .lst xs => some (.tup xs)
  | .tuple, .tup xs => some (.tup xs)
  | .list, .lst xs => some (.lst xs)
  | .list, .tup xs => some (.lst xs)
  | _, _ => none
def conD : Const → Option D
  | .none => some .non
  | .bool b => some (.bl b)
  | .int i => some (.int i)
  | .str x => some (.str x)
  | _ => none

/-! ### further operations -/
def insI (x : Int) : List Int → List Int
  | [] => [x]
  | y :: l => if x < y then x :: y :: l else if x = y then y :: l else y :: insI x l
def ssI : List Int → List Int
  | [] => []
  | x :: l => insI x (ssI l)
def ssD : D → Option D
  | .lst xs => match allI xs with
    | some ns => if ns.length < 64 then some (.lst ((ssI ns).map .int)) else none
    | none => none
  | _ => none
def itsI : D → Option (List Int)
  | .lst xs => allI xs
  | .tup xs => allI xs
  | _ => none
def sneD (x y : D) : Option D := match itsI x, itsI y with
  | some ns, some ms => if ns.length < 64 ∧ ms.length < 64 then some (.bl (!(ssI ns == ssI ms))) else none
  | _, _ => none
def firstEq (d : D) : Nat → List D → Option Nat
  | _, [] => none
  | n, x :: xs => if PyData.eqv x.py d.py then some n else firstEq d (n + 1) xs
def idxD : D → D → Option D
  | .lst xs, d => if SeqAt.shaped d.py && SeqAt.shaped (D.lst xs).py then (firstEq d 0 xs).map fun (k : Nat) => .int k else none
  | _, _ => none
def cutD (xs : List D) (lo hi : Option Int) : List D := (xs.drop (HT.sIx xs.length 0 lo)).take (HT.sIx xs.length xs.length hi - HT.sIx xs.length 0 lo)
def partI : Option D → Option (Option Int)
  | none => some none
  | some (.int i) => some (some i)
  | _ => none
def slD : D → Option Int → Option Int → Option D
  | .lst xs, lo, hi => some (.lst (cutD xs lo hi))
  | .tup xs, lo, hi => some (.tup (cutD xs lo hi))
  | _, _, _ => none
def mOpt (m : M D) : M (Option Int) := bnd m fun x => match x with
  | .int i => ret (some i)
  | _ => fail
/-- sorted ints -/
def insS (x : Int) : List Int → List Int
  | [] => [x]
  | y :: l => if x ≤ y then x :: y :: l else y :: insS x l
def srtI : List Int → List Int
  | [] => []
  | x :: l => insS x (srtI l)
def srtD : D → Option D
  | .lst xs => match allI xs with
    | some ns => some (.lst ((srtI ns).map .int))
    | none => none
  | _ => none
def revD : D → Option D
  | .lst xs => some (.lst xs.reverse)
  | _ => none
def isiTD (d : D) : List Ty → Option Bool
  | [] => some false
  | t :: ts => match isiD d t with
    | some true => some true
    | some false => isiTD d ts
    | none => none
def isiCD (k : Nat) : D → Option Bool
  | .obj q _ => if q = k then some true else none
  | _ => none
/-- the values in the parameters' order -/
def perm {α : Type} (π : List Nat) (xs : List α) : List α := π.filterMap fun i => xs[i]?
/-! ### the state -/
def setL (L : List Slot) (i : Nat) (d : Slot) : List Slot := L.set i d
def wipeL (L : List Slot) : List Nat → List Slot
  | [] => L
  | v :: vs => (wipeL L vs).set v .no
/-- the slots vs as they were -/
def backL (L0 L : List Slot) : List Nat → List Slot
  | [] => L
  | v :: vs => (backL L0 L vs).set v (match L0[v]? with | some (.val d) => .val d | _ => .no)
def readVar (i : Nat) : M D := fun s =>
  match s.L[i]? with
  | some (.val d) => some (d, s)
  | some (.own o) => some (o.toD, { s with L := s.L.set i (.val o.toD) })
  | some (.pin d _) => some (d, s)
  | _ => none
/-- a look at what a name holds, in passing -/
def peekO (s : St) (i : Nat) : Option OD :=
  match s.L[i]? with
  | some (.val d) => some (.leaf d)
  | some (.own o) => some o
  | some (.ref j) => s.S[j]?
  | some (.pin d _) => some (.leaf d)
  | _ => none
def setV (i : Nat) (d : D) : M Unit := fun s => if i < s.L.length then some ((), { s with L := s.L.set i (.val d) }) else none
mutual
def setT : Tg → D → M Unit
  | .nm i _ _, d => setV i d
  | .tp ts _ _, d => match d with
    | .tup ds => setTs ts ds
    | .lst ds => setTs ts ds
    | _ => fail
def setTs : Tgs → List D → M Unit
  | .nil, [] => ret ()
  | .cons t ts, d :: ds => bnd (setT t d) fun _ => setTs ts ds
  | _, _ => fail
end

/-- what calls mean: a def's number, the bound slots, the cells -/
abbrev CallF := Nat → List Slot → List OD → Option (OD × List OD)
structure Env where
  call : CallF
  wf : Nat
  glob : Nat → Option D
  fn : Nat → List Str

def doCall (Γ : Env) (f : Nat) (as : List Slot) : M OD := fun s =>
  match Γ.call f as s.S with
  | some (o, S') => some (o, { s with S := S' })
  | none => none
/-- a new list is lent to a def, as a further cell -/
def lend (Γ : Env) (f : Nat) (o : OD) : M D := fun s =>
  match o with
  | .fl ds => match Γ.call f [.ref s.S.length] (s.S ++ [.fl ds]) with
    | some (.leaf d, S') => some (d, { s with S := S'.take s.S.length })
    | _ => none
  | _ => none
/-- a new object is made by its def -/
def refsIn (m : Nat) (sl : List Slot) : Bool := sl.all fun | .ref j => decide (j < m) | _ => true
def make (Γ : Env) (k f : Nat) (sl : List Slot) : M D := fun s =>
  if refsIn s.S.length sl = true then match Γ.call f (.ref s.S.length :: sl) (s.S ++ [.oobj k []]) with
  | some (.leaf .non, S') => match S'[s.S.length]? with
    | some (.oobj k' fs) => some (.obj k' fs, { s with S := S'.take s.S.length })
    | _ => none
  | _ => none
  else none
def runItems {α : Type} (ids : List Nat) (t : Tg) (body : M (List α)) : List D → M (List α)
  | [] => ret []
  | x :: r => bnd (fun s => some ((), { s with L := wipeL s.L ids })) fun _ => bnd (setT t x) fun _ => bnd body fun ys => bnd (runItems ids t body r) fun zs => ret (ys ++ zs)
def inScope (ids : List Nat) (m : M (List D)) : M D := fun s =>
  match m s with
  | some (ds, s') => if ds.length ≤ sizeLine then some (.lst ds, { s' with L := backL s.L s'.L ids }) else none
  | none => none
/-- .. as it is -/
def inBlk {α : Type} (ids : List Nat) (m : M (List α)) : M (List α) := fun s =>
  match m s with
  | some (ds, s') => if ds.length ≤ sizeLine then some (ds, { s' with L := backL s.L s'.L ids }) else none
  | none => none
def itD : D → Option (List D)
  | .lst xs => some xs
  | .tup xs => some xs
  | _ => none
def rangeD (lo hi : Int) : List D := (List.range (hi - lo).toNat).map fun (k : Nat) => D.int (lo + k)

def lrngD : D → Option D
  | .int n => if -(2 ^ 62) ≤ n ∧ n < 2 ^ 62 ∧ n.toNat ≤ 2 ^ 24 then some (.lst (rangeD 0 n)) else none
  | _ => none
def attO (fn : Nat → List Str) (k : Nat) (f : Str) : OD → Option D
  | .leaf (.obj q fs) => if (fn q)[k]? = some f then fs[k]? else none
  | .oobj q fs => if (fn q)[k]? = some f then fs[k]? else none
  | _ => none
def peek (i : Nat) : M D := fun s => match peekO s i with | some o => some (o.toD, s) | none => none
def peekL (i : Nat) : M Unit := fun s => match peekO s i with | some (.fl _) => some ((), s) | _ => none
/-- an operand that is only looked at -/
def opn (m : M D) : E → M D
  | .bv i _ _ => peek i
  | _ => m
def mutF (j : Nat) (f : List D → Option (D × List D)) : M D := fun s =>
  match s.L[j]? with
  | some (.own (.fl ds)) => match f ds with
    | some (d, ds') => some (d, { s with L := s.L.set j (.own (.fl ds')) })
    | none => none
  | some (.ref k) => match s.S[k]? with
    | some (.fl ds) => match f ds with
      | some (d, ds') => some (d, { s with S := s.S.set k (.fl ds') })
      | none => none
    | _ => none
  | _ => none
def mm0 (m : Mm) (ds : List D) : Option (D × List D) :=
  match m with
  | .pop => match ds[ds.length - 1]? with
    | some d => some (d, ds.dropLast)
    | none => none
  | .clear => some (.non, [])
  | .reverse => some (.non, ds.reverse)
  | _ => none
def mm1 (m : Mm) (x : D) (ds : List D) : Option (D × List D) :=
  match m with
  | .append => if ds.length < sizeLine then some (.non, ds ++ [x]) else none
  | .extend => match x with
    | .lst es => if ds.length + es.length ≤ sizeLine then some (.non, ds ++ es) else none
    | .tup es => if ds.length + es.length ≤ sizeLine then some (.non, ds ++ es) else none
    | _ => none
  | .pop => match x with
    | .int i => if -(2 ^ 63) ≤ i ∧ i < 2 ^ 63 then (match ixN ds.length i with
      | some k => match ds[k]? with
        | some d => some (d, ds.eraseIdx k)
        | none => none
      | none => none) else none
    | _ => none
  | _ => none
def setAt (i : D) (x : D) (ds : List D) : Option (D × List D) :=
  match i with
  | .int k => match ixN ds.length k with
    | some j => some (.non, ds.set j x)
    | none => none
  | _ => none
def unaM (op : UnaryOp) (m : M D) : M D :=
  match op with
  | .Not => bnd m fun x => bnd (ofO x.tr) fun b => ret (.bl !b)
  | op => bnd m fun x => ofO (unD op x)
def cmpM (op : CmpOp) (ma : M D) (a : E) (mb : M D) : M D :=
  match a with
  | .bv i _ _ => bnd (peek i) fun _ => bnd mb fun y => bnd (peek i) fun x => ofO (cmpD op x y)
  | _ => bnd ma fun x => bnd mb fun y => ofO (cmpD op x y)
def subB (j : Nat) (m : M D) : M D := bnd (peek j) fun _ => bnd m fun y s => match peekO s j with
      | some (.leaf d) => ofO (ixD d y) s
      | some (.fl ds) => ofO (ixD (.lst ds) y) s
      | _ => none
def subM (ma : M D) (a : E) (mi : M D) : M D :=
  match a with
  | .bv j _ _ => subB j mi
  | _ => bnd ma fun x => bnd mi fun y => ofO (ixD x y)
def attM (fn : Nat → List Str) (ma : M D) (a : E) (k : Nat) (f : Str) : M D :=
  match a with
  | .bv j _ _ => fun s => match peekO s j with
      | some o => ofO (attO fn k f o) s
      | none => none
  | _ => bnd ma fun x => ofO (attO fn k f (.leaf x))
def enumD : Nat → List D → List D
  | _, [] => []
  | n, d :: ds => .tup [.int n, d] :: enumD (n + 1) ds
mutual
def Tg.ids : Tg → List Nat
  | .nm i _ _ => [i]
  | .tp ts _ _ => ts.ids
def Tgs.ids : Tgs → List Nat
  | .nil => []
  | .cons t ts => t.ids ++ ts.ids
end
def Cs.ids : Cs → List Nat
  | .nil => []
  | .cons t _ _ cs => t.ids ++ cs.ids
/-- a clause by its meaning -/
structure DC where
  t : Tg
  mi : M (List D)
  mt : M Bool
  vs : List Nat
def denDC (me : M D) : List DC → M (List D)
  | [] => bnd me fun d => ret [d]
  | q :: r => bnd q.mi fun items => runItems q.vs q.t (bnd q.mt fun b => if b then denDC me r else ret []) items
def lenM (Γ : Env) (k f : Nat) (x : D) : M D := match x with
  | .obj q fs => if q = k then bnd (doCall Γ f [.val (.obj q fs)]) fun o => match o with
    | .leaf (.int n) => if 0 ≤ n ∧ n < 2 ^ 63 then ret (.int n) else fail
    | _ => fail
    else fail
  | _ => fail
def eqM (Γ : Env) (k f : Nat) (x y : D) : M D := match x, y with
  | .obj q fs, .obj q' gs => if q = k ∧ q' = k then bnd (doCall Γ f [.val (.obj q fs), .val (.obj q' gs)]) fun o => match o with
    | .leaf (.bl b) => ret (.bl b)
    | _ => fail
    else fail
  | _, _ => fail
def callKM (Γ : Env) (f n : Nat) (π : List Nat) (ds : List D) : M D := if (perm π ds).length = n then bnd (doCall Γ f ((perm π ds).map .val)) fun o => ofO o.leafD else fail
/-- all of it: the first clause in the block -/
def compM (ids : List Nat) (me : M D) : List DC → M D
  | [] => fail
  | q :: r => bnd q.mi fun items => inScope ids (runItems ids q.t (bnd q.mt fun b => if b then denDC me r else ret []) items)
def OD.isNon : OD → Bool
  | .leaf .non => true
  | _ => false
/-- x[k] is None, x owned -/
def nnaM (j k : Nat) (neg : Bool) : M D := fun s => match peekO s j with
  | some (.nl os) => match os[k]? with
    | some o => some (.bl (if neg then !o.isNon else o.isNon), s)
    | none => none
  | _ => none
mutual
def den (Γ : Env) : E → M D
  | .var i _ _ => readVar i
  | .bv _ _ _ => fail
  | .con c _ _ => ofO (conD c)
  | .glo g _ _ => ofO (Γ.glob g)
  | .tup es _ _ => bnd (dens Γ es) fun ds => if ds.length ≤ sizeLine then ret (.tup ds) else fail
  | .lst es _ => bnd (dens Γ es) fun ds => if ds.length ≤ sizeLine then ret (.lst ds) else fail
  | .bin a op b _ => bnd (den Γ a) fun x => bnd (den Γ b) fun y => ofO (binD op x y)
  | .una op a _ => unaM op (den Γ a)
  | .bop op e es _ => denB Γ op (den Γ e) es
  | .cmp a op b _ => cmpM op (den Γ a) a (opn (den Γ b) b)
  | .cmp2 a op b op' c _ => bnd (den Γ a) fun x => bnd (den Γ b) fun y => bnd (ofO (cmpD op x y)) fun r => bnd (ofO r.tr) fun b => if b then bnd (den Γ c) fun z => ofO (cmpD op' y z) else ret r
  | .ife c a b _ => bnd (den Γ c) fun x => bnd (ofO x.tr) fun b' => if b' then den Γ a else den Γ b
  | .sub a i _ => subM (den Γ a) a (den Γ i)
  | .att a k f _ => attM Γ.fn (den Γ a) a k f
  | .bi1 b _ e _ => bnd (opn (den Γ e) e) fun x => ofO (bi1D b x)
  | .bi2 b _ e e' _ => bnd (den Γ e) fun x => bnd (den Γ e') fun y => ofO (bi2D b x y)
  | .conv b _ e _ => bnd (den Γ e) fun x => ofO (convD b x)
  | .mth0 m j _ _ _ _ => mutF j (mm0 m)
  | .mth1 m j _ _ _ e _ => bnd (peekL j) fun _ => bnd (den Γ e) fun d => mutF j (mm1 m d)
  | .isi a t _ _ _ => bnd (opn (den Γ a) a) fun x => ofO ((isiD x t).map .bl)
  | .call f _ _ as _ => bnd (denAs Γ as) fun sl => bnd (doCall Γ f sl) fun o => ofO o.leafD
  | .callT f _ _ g _ _ as _ _ => bnd (denAs Γ as) fun sl => bnd (doCall Γ g sl) fun o => lend Γ f o
  | .new k f _ _ as _ => bnd (denAs Γ as) fun sl => make Γ k f sl
  | .comp elt t it ifs _ own _ => bnd (denIt Γ it) fun items => inScope (own.map (·.2)) (runItems (own.map (·.2)) t (bnd (denIfs Γ ifs) fun c => if c then bnd (den Γ elt) fun d => ret [d] else ret []) items)
  | .compN elt cs _ own _ => compM (own.map (·.2)) (den Γ elt) (denCs Γ cs)
  | .ss _ _ e _ _ => bnd (den Γ e) fun x => ofO (ssD x)
  | .sne _ a _ _ b _ _ => bnd (den Γ a) fun x => bnd (den Γ b) fun y => ofO (sneD x y)
  | .idx a _ e _ => bnd (den Γ a) fun x => bnd (den Γ e) fun y => ofO (idxD x y)
  | .sl a lo hi _ _ => bnd (den Γ a) fun x => bnd (denEO Γ lo) fun l => bnd (denEO Γ hi) fun h => ofO (slD x l h)
  | .lrng _ _ e _ _ => bnd (den Γ e) fun x => ofO (lrngD x)
  | .isiT a ts _ _ _ _ => bnd (den Γ a) fun x => ofO ((isiTD x (ts.map (·.1))).map .bl)
  | .isiC a k _ _ _ _ => bnd (den Γ a) fun x => ofO ((isiCD k x).map .bl)
  | .callK f _ _ ks n π _ => bnd (denKs Γ ks) fun ds => callKM Γ f n π ds
  | .lenO k f _ e _ => bnd (den Γ e) fun x => lenM Γ k f x
  | .eqO k f a b _ => bnd (den Γ a) fun x => bnd (den Γ b) fun y => eqM Γ k f x y
  | .srt _ e _ => bnd (den Γ e) fun x => ofO (srtD x)
  | .rev a _ _ _ _ _ => bnd (den Γ a) fun x => ofO (revD x)
  | .nna j _ _ k _ _ _ neg _ _ _ => nnaM j k neg
def denEO (Γ : Env) : EO → M (Option Int)
  | .no => ret none
  | .yes e => mOpt (den Γ e)
def denKs (Γ : Env) : Ks → M (List D)
  | .nil => ret []
  | .cons _ e _ ks => bnd (den Γ e) fun d => bnd (denKs Γ ks) fun ds => ret (d :: ds)
def denCs (Γ : Env) : Cs → List DC
  | .nil => []
  | .cons t it ifs cs => ⟨t, denIt Γ it, denIfs Γ ifs, t.ids ++ cs.ids⟩ :: denCs Γ cs
def dens (Γ : Env) : Es → M (List D)
  | .nil => ret []
  | .cons e es => bnd (den Γ e) fun d => bnd (dens Γ es) fun ds => ret (d :: ds)
def denB (Γ : Env) (op : BoolOp) (m : M D) : Es → M D
  | .nil => m
  | .cons e es => bnd m fun x => bnd (ofO x.tr) fun b => match op with
    | .And => if b then denB Γ op (den Γ e) es else ret x
    | .Or => if b then ret x else denB Γ op (den Γ e) es
def denAs (Γ : Env) : As → M (List Slot)
  | .nil => ret []
  | .val e as => bnd (den Γ e) fun d => bnd (denAs Γ as) fun sl => ret (.val d :: sl)
  | .share i _ _ as => bnd (fun s => match s.L[i]? with
      | some (.val d) => some (Slot.val d, s)
      | some (.ref j) => some (.ref j, s)
      | some (.pin d _) => some (.val d, s)
      | _ => none) fun x => bnd (denAs Γ as) fun sl => ret (x :: sl)
def denIfs (Γ : Env) : Es → M Bool
  | .nil => ret true
  | .cons e es => bnd (den Γ e) fun x => bnd (ofO x.tr) fun b => if b then denIfs Γ es else ret false
def denIt (Γ : Env) : Wk → M (List D)
  | .e a => bnd (den Γ a) fun x => ofO (itD x)
  | .rng a _ _ => bnd (den Γ a) fun x => match x with
    | .int n => if -(2 ^ 62) ≤ n ∧ n < 2 ^ 62 then ret (rangeD 0 n) else fail
    | _ => fail
  | .rng2 a b _ _ => bnd (den Γ a) fun x => bnd (den Γ b) fun y => match x, y with
    | .int i, .int n => if -(2 ^ 62) ≤ i ∧ i < 2 ^ 62 ∧ -(2 ^ 62) ≤ n ∧ n < 2 ^ 62 then ret (rangeD i n) else fail
    | _, _ => fail
  | .enu a _ _ => bnd (den Γ a) fun x => match x with
    | .lst ds => ret (enumD 0 ds)
    | .tup ds => ret (enumD 0 ds)
    | _ => fail
end

/-! ### statements -/
/-- the right side of an assignment to a name: a value, or a new list that the name then owns -/
inductive OE where
  | v (e : E)
  | o (e : E)
  | oo (e : E)
  | oc (e : E)
  | mv (i : Nat) (x : Str) (p : Pos)
  | dl (es : List OE) (p : Pos)
  | dt (es : List OE) (k : Nat) (p : Pos)
  | ife (c : E) (a b : OE) (p : Pos)
mutual
def OE.e : OE → E
  | .v e => e
  | .o e => e
  | .oo e => e
  | .oc e => e
  | .mv i x p => .var i x p
  | .dl es p => .lst (OE.es es) p
  | .dt es k p => .tup (OE.es es) k p
  | .ife c a b p => .ife c a.e b.e p
def OE.es : List OE → Es
  | [] => .nil
  | e :: es => .cons e.e (OE.es es)
end
def catF (x y : D) : Option (List D) := match x, y with
  | .lst xs, .lst ys => if xs.length + ys.length ≤ sizeLine then some (xs ++ ys) else none
  | _, _ => none
/-- a new list -/
def denF (Γ : Env) : E → M (List D)
  | .bin a .Add b _ => bnd (den Γ a) fun x => bnd (den Γ b) fun y => ofO (catF x y)
  | .srt _ e _ => bnd (den Γ e) fun x => match srtD x with
    | some (.lst ds) => ret ds
    | _ => fail
  | .lst es _ => bnd (dens Γ es) fun ds => if ds.length ≤ sizeLine then ret ds else fail
  | .conv .list _ e _ => bnd (den Γ e) fun x => ofO (itD x)
  | .comp elt t it ifs _ own _ => bnd (denIt Γ it) fun items => inBlk (own.map (·.2)) (runItems (own.map (·.2)) t (bnd (denIfs Γ ifs) fun c => if c then bnd (den Γ elt) fun d => ret [d] else ret []) items)
  | _ => fail
/-- a new list of new lists -/
def denR (Γ : Env) : E → M (List (List D))
  | .comp elt t it ifs _ own _ => bnd (denIt Γ it) fun items => inBlk (own.map (·.2)) (runItems (own.map (·.2)) t (bnd (denIfs Γ ifs) fun c => if c then bnd (denF Γ elt) fun d => ret [d] else ret []) items)
  | _ => fail
/-- what a call has made -/
def OD.slot : OD → Option Slot
  | .leaf d => some (.val d)
  | .oobj _ _ => none
  | o => some (.own o)
def denC (Γ : Env) : E → M Slot
  | .call f _ _ as _ => bnd (denAs Γ as) fun sl => bnd (doCall Γ f sl) fun o => ofO o.slot
  | .callK f _ _ ks n π _ => bnd (denKs Γ ks) fun ds => if (perm π ds).length = n then bnd (doCall Γ f ((perm π ds).map .val)) fun o => ofO o.slot else fail
  | _ => fail
def slotsO : List Slot → Option (List OD)
  | [] => some []
  | .val d :: r => (slotsO r).map (.leaf d :: ·)
  | .own o :: r => (slotsO r).map (o :: ·)
  | _ => none
/-- an owned name gives away what it owns -/
def moveM (i : Nat) : M Slot := fun s => match s.L[i]? with
  | some (.own o) => some (.own o, { s with L := s.L.set i .no })
  | some (.val d) => some (.val d, s)
  | _ => none
def disM (f : List OD → OD) (m : M (List Slot)) : M Slot := bnd m fun xs => match slotsO xs with
  | some os => if os.length ≤ sizeLine then ret (.own (f os)) else fail
  | none => fail
mutual
def denOE (Γ : Env) : OE → M Slot
  | .v e => bnd (den Γ e) fun d => ret (.val d)
  | .o e => bnd (denF Γ e) fun ds => ret (.own (.fl ds))
  | .oo e => bnd (denR Γ e) fun dss => ret (.own (.ll dss))
  | .oc e => denC Γ e
  | .mv i _ _ => moveM i
  | .dl es _ => disM .nl (denOEs Γ es)
  | .dt es _ _ => disM .nt (denOEs Γ es)
  | .ife c a b _ => bnd (den Γ c) fun x => bnd (ofO x.tr) fun t => if t then denOE Γ a else denOE Γ b
def denOEs (Γ : Env) : List OE → M (List Slot)
  | [] => ret []
  | e :: es => bnd (denOE Γ e) fun x => bnd (denOEs Γ es) fun xs => ret (x :: xs)
end
structure Nm where
  i : Nat
  x : Str
  p : Pos
mutual
inductive T where
  | pass (p : Pos)
  | exp (e : E) (p : Pos)
  | set (n : Nm) (e : OE) (p : Pos)
  | asg (t : Tg) (e : E) (p : Pos)
  | par (t : List Nm) (kt : Nat) (pt : Pos) (es : List OE) (ke : Nat) (pe : Pos) (p : Pos)
  | subnm (j : Nm) (k : Int) (kk : Nat) (pk q : Pos) (n : Nm) (kt : Nat) (pt : Pos) (e : E) (p : Pos)
  | setI (j : Nm) (i : E) (q : Pos) (e : E) (p : Pos)
  | setF (j : Nm) (k : Nat) (f : Str) (q : Pos) (e : E) (p : Pos)
  | iff (c : E) (a b : Ts) (p : Pos)
  | whl (c : E) (a : Ts) (p : Pos)
  | for (t : Tg) (it : Wk) (a : Ts) (p : Pos)
  | ret (e : E) (p : Pos)
  | retO (e : OE) (p : Pos)
  | setII (j : Nm) (i : E) (q1 : Pos) (i2 : E) (q2 : Pos) (e : E) (p : Pos)
  | apo (j : Nm) (p2 : Pos) (e : OE) (p3 p : Pos)
  | apa (j : Nm) (k kk : Nat) (pk p2 p3 : Pos) (c : Const) (kc : Nat) (pc p4 p : Pos)
  | spl (j : Nm) (kt : Nat) (pt pb : Pos) (m : Nm) (q1 q2 q3 q4 q5 q6 : Pos) (kn : Nat) (qn q7 q8 q9 p : Pos)
  | exr (j : Nm) (p2 : Pos) (e : E) (p3 p : Pos)
  | bad (st : Stmt)
inductive Ts where
  | nil
  | cons (t : T) (ts : Ts)
  | blk (j : Nat) (P : List Nat) (a b : Ts)
end
inductive Fl where
  | nx | bk | ct | rt (o : OD)
def setSlot (i : Nat) (x : Slot) : M Unit := fun s => if i < s.L.length then some ((), { s with L := s.L.set i x }) else none
def setSlots : List Nm → List Slot → M Unit
  | [], [] => ret ()
  | n :: ns, x :: xs => bnd (setSlot n.i x) fun _ => setSlots ns xs
  | _, _ => fail
def andThen (m : M Fl) (k : M Fl) : M Fl := bnd m fun fl => match fl with
  | .nx => k
  | fl => ret fl
def turnEnd (m : M Fl) (k : M Fl) : M Fl := bnd m fun fl => match fl with
  | .nx => k
  | .ct => k
  | .bk => ret .nx
  | .rt o => ret (.rt o)
def whileM (c : M Bool) (body : M Fl) : Nat → M Fl
  | 0 => fail
  | n + 1 => bnd c fun b => if b then turnEnd body (whileM c body n) else ret .nx
def forM (t : Tg) (body : M Fl) : List D → M Fl
  | [] => ret .nx
  | x :: r => bnd (setT t x) fun _ => turnEnd body (forM t body r)
def tst (Γ : Env) (e : E) : M Bool := bnd (den Γ e) fun x => ofO x.tr
def setFld (j k : Nat) (f : Str) (fn : Nat → List Str) (d : D) : M Unit := fun s =>
  match s.L[j]? with
  | some (.ref q) => match s.S[q]? with
    | some (.oobj c fs) => if k = fs.length ∧ (fn c)[k]? = some f then some ((), { s with S := s.S.set q (.oobj c (fs ++ [d])) }) else none
    | _ => none
  | _ => none
def Slot.notOwn : Slot → Bool
  | .own _ => false
  | _ => true
def D.atom : D → Bool
  | .non => true
  | .bl _ => true
  | .int _ => true
  | .str _ => true
  | _ => false
def OD.flat : OD → Bool
  | .fl ds => ds.all D.atom
  | _ => false
def rtM : Slot → M Fl
  | .val d => ret (.rt (.leaf d))
  | .own o => ret (.rt o)
  | _ => fail
/-- x[i][j] = d: while the places are told, x is nobody's -/
def setII (mi mj : M D) (j : Nat) (d : D) : M Fl := fun s =>
  match s.L[j]? with
  | some (.own (.ll dss)) => if (s.L.set j .no).all Slot.notOwn = true then
      (match mi { s with L := s.L.set j (.val (OD.ll dss).toD) } with
      | some (.int a, s1) => match ixN dss.length a with
        | some k => match dss[k]? with
          | some ds => (match mj s1 with
            | some (.int b, s2) => match ixN ds.length b with
              | some l => if s2.S.all OD.flat = true then some (.nx, ⟨s.L.set j (.own (.ll (dss.set k (ds.set l d)))), s2.S⟩) else none
              | none => none
            | _ => none)
          | none => none
        | none => none
      | _ => none) else none
  | _ => none
/-- x.append(e), x a list of owned parts -/
def apoM (j : Nat) (x : Slot) : M Fl := fun s => match s.L[j]? with
  | some (.own (.nl os)) => match slotsO [x] with
    | some os' => if os.length < sizeLine then some (.nx, { s with L := s.L.set j (.own (.nl (os ++ os'))) }) else none
    | none => none
  | _ => none
def isNl (j : Nat) : M Unit := fun s => match s.L[j]? with
  | some (.own (.nl _)) => some ((), s)
  | _ => none
/-- x[k].append(d) -/
def apaM (j k : Nat) (d : D) : M Fl := fun s => match s.L[j]? with
  | some (.own (.nl os)) => match os[k]? with
    | some (.fl ds) => if ds.length < sizeLine then some (.nx, { s with L := s.L.set j (.own (.nl (os.set k (.fl (ds ++ [d]))))) }) else none
    | _ => none
  | _ => none
/-- the lists in the tuple x are spoilt; x is forgotten -/
def splO (n : Nat) : OD → Bool
  | .fl ds => decide (ds.length + n ≤ sizeLine)
  | _ => false
def splM (j m : Nat) : M Fl := fun s => match s.L[j]? with
  | some (.val .non) => some (.nx, s)
  | some (.own (.nt os)) => if os.all (splO os.length) = true ∧ os ≠ [] ∧ m < s.L.length then some (.nx, { s with L := (s.L.set j .no).set m .no }) else none
  | _ => none
/-- x.extend(e), where e reads x -/
def exrM (j : Nat) (m : M D) : M Fl := fun s => match s.L[j]? with
  | some (.own (.fl ds)) => if (s.L.set j .no).all Slot.notOwn = true then
      (match m { s with L := s.L.set j (.val (.lst ds)) } with
      | some (.lst es, s2) => if es.all D.atom = true ∧ s2.S.all OD.flat = true ∧ ds.length + es.length ≤ sizeLine then some (.nx, ⟨s.L.set j (.own (.fl (ds ++ es))), s2.S⟩) else none
      | _ => none) else none
  | _ => none
/-- a block in which an owned value is nobody's: the names P are held -/
def pinL (L : List Slot) (n : Nat) : List Nat → Option (List Slot × List D)
  | [] => some (L, [])
  | i :: P => match L[i]?, pinL L (n + 1) P with
    | some (.val d), some (L', ds) => some (L'.set i (.pin d n), d :: ds)
    | _, _ => none
def Slot.plainS (n : Nat) : Slot → Bool
  | .no => true
  | .val _ => true
  | .ref j => decide (j < n)
  | _ => false
def endS (n : Nat) (ds : List D) : Slot → Slot
  | .pin _ m => if m < n then .no else (match ds[m - n]? with | some d => .val d | none => .no)
  | .val d => if d.atom then .val d else .no
  | .ref j => if j + 1 < n then .ref j else .no
  | _ => .no
def isPin (n : Nat) : Option Slot → Bool
  | some (.pin _ m) => m == n
  | _ => false
def dropS (n : Nat) : Slot → Slot
  | .val d => .val d
  | .ref j => if j < n then .ref j else .no
  | _ => .no
def blkM (j : Nat) (P : List Nat) (mb mr : M Fl) : M Fl := fun s => match s.L[j]? with
  | some (.own o) =>
      (match pinL (s.L.map (dropS s.S.length)) (s.S.length + 1) P with
      | some (L', ds) => match mb ⟨L'.set j (.pin o.toD s.S.length), s.S⟩ with
        | some (.nx, s2) => if s2.S.all OD.flat = true ∧ s2.S.length ≤ s.S.length ∧ isPin s.S.length s2.L[j]? = true then mr ⟨(s2.L.map (endS (s.S.length + 1) ds)).set j (.own o), s2.S⟩ else none
        | some (.rt r, s2) => some (.rt r, ⟨s2.L.map fun _ => .no, s2.S.take s.S.length⟩)
        | _ => none
      | none => none)
  | _ => andThen mb mr s
mutual
def exec (Γ : Env) : T → M Fl
  | .pass _ => ret .nx
  | .exp e _ => bnd (den Γ e) fun _ => ret .nx
  | .set n e _ => bnd (denOE Γ e) fun x => bnd (setSlot n.i x) fun _ => ret .nx
  | .asg t e _ => bnd (den Γ e) fun d => bnd (setT t d) fun _ => ret .nx
  | .par t _ _ es _ _ _ => bnd (denOEs Γ es) fun xs => bnd (setSlots t xs) fun _ => ret .nx
  | .subnm j k _ _ _ n _ _ e _ => bnd (den Γ e) fun d => match d with
    | .tup [a, b] => bnd (mutF j.i (setAt (.int k) a)) fun _ => bnd (setV n.i b) fun _ => ret .nx
    | _ => fail
  | .setI j i _ e _ => bnd (den Γ e) fun d => bnd (peekL j.i) fun _ => bnd (den Γ i) fun y => bnd (mutF j.i (setAt y d)) fun _ => ret .nx
  | .setF j k f _ e _ => bnd (den Γ e) fun d => bnd (setFld j.i k f Γ.fn d) fun _ => ret .nx
  | .iff c a b _ => bnd (tst Γ c) fun t => if t then execs Γ a else execs Γ b
  | .whl c a _ => whileM (tst Γ c) (execs Γ a) Γ.wf
  | .for t it a _ => bnd (denIt Γ it) fun items => forM t (execs Γ a) items
  | .ret e _ => bnd (den Γ e) fun d => ret (.rt (.leaf d))
  | .retO e _ => bnd (denOE Γ e) rtM
  | .setII j i _ i2 _ e _ => bnd (den Γ e) fun d => setII (den Γ i) (den Γ i2) j.i d
  | .apo j _ e _ _ => bnd (isNl j.i) fun _ => bnd (denOE Γ e) fun x => apoM j.i x
  | .apa j k _ _ _ _ c _ _ _ _ => bnd (ofO (conD c)) fun d => apaM j.i k d
  | .spl j _ _ _ m _ _ _ _ _ _ _ _ _ _ _ _ => splM j.i m.i
  | .exr j _ e _ _ => exrM j.i (den Γ e)
  | .bad _ => fail
def execs (Γ : Env) : Ts → M Fl
  | .nil => ret .nx
  | .cons t ts => andThen (exec Γ t) (execs Γ ts)
  | .blk j P a b => blkM j P (execs Γ a) (execs Γ b)
end
def Nm.py (n : Nm) : Expr := .Name n.x n.p
mutual
def T.py : T → Stmt
  | .pass p => .Pass p
  | .exp e p => .Expr e.py p
  | .set n e p => .Assign [n.py] e.e.py p
  | .asg t e p => .Assign [t.py] e.py p
  | .par t kt pt es ke pe p => .Assign [.Tuple (t.map Nm.py) kt pt] (.Tuple (es.map fun e => e.e.py) ke pe) p
  | .subnm j k kk pk q n kt pt e p => .Assign [.Tuple [.Subscript j.py (.Constant (.int k) kk pk) q, n.py] kt pt] e.py p
  | .setI j i q e p => .Assign [.Subscript j.py i.py q] e.py p
  | .setF j _ f q e p => .Assign [.Attribute j.py f q] e.py p
  | .iff c a b p => .If c.py a.py b.py p
  | .whl c a p => .While c.py a.py [] p
  | .for t it a p => .For t.py it.py a.py [] p
  | .ret e p => .Return (some e.py) p
  | .retO e p => .Return (some e.e.py) p
  | .apo j p2 e p3 p => .Expr (.Call (.Attribute j.py "append" p2) [e.e.py] [] p3) p
  | .apa j k kk pk p2 p3 c kc pc p4 p => .Expr (.Call (.Attribute (.Subscript j.py (.Constant (.int k) kk pk) p2) "append" p3) [.Constant c kc pc] [] p4) p
  | .setII j i q1 i2 q2 e p => .Assign [.Subscript (.Subscript j.py i.py q1) i2.py q2] e.py p
  | .spl j kt pt pb m q1 q2 q3 q4 q5 q6 kn qn q7 q8 q9 p => .For m.py (.BoolOp .Or [j.py, .Tuple [] kt pt] pb) [.If (.Call (.Name "isinstance" q1) [.Name m.x q2, .Name "list" q3] [] q4) [.Expr (.Call (.Attribute (.Name m.x q5) "append" q6) [.Constant .none kn qn] [] q7) q8] [] q9] [] p
  | .exr j p2 e p3 p => .Expr (.Call (.Attribute j.py "extend" p2) [e.py] [] p3) p
  | .bad st => st
def Ts.py : Ts → List Stmt
  | .nil => []
  | .cons t ts => t.py :: ts.py
  | .blk _ _ a b => a.py ++ b.py
end
end Dm

/-! The D machine: what data stands where. -/
namespace Dm
open PySem L2

/-- who may change what stands at an address -/
inductive Ow where
  | no | slot (i : Nat) (p : List Nat) | cell (j : Nat) (p : List Nat) | res (p : List Nat) | out
abbrev Wm := Addr → Ow
def noW : Wm := fun _ => .no

structure Cc where
  K : PySem.W.Frag
  cl : Nat → Addr
  fn : Nat → List Str

def KL (K : PySem.W.Frag) (a : Addr) (xs : List V) : Prop :=
  ∃ (o : Obj) (its : Array Value) (n : Nat), K.lookup a = some o ∧ o.cls = .type "list" ∧ o.dict = none ∧ o.data = .seq its n ∧ its.size ≤ sizeLine ∧ Vals xs its.toList
def KT (K : PySem.W.Frag) (a : Addr) (xs : List V) : Prop :=
  ∃ (o : Obj) (its : Array Value) (n : Nat), K.lookup a = some o ∧ o.cls = .type "tuple" ∧ o.data = .seq its n ∧ its.size ≤ sizeLine ∧ Vals xs its.toList
def LsA (w : Wm) (H : Hp) (a : Addr) (xs : List V) : Prop := w a = .no ∧ H a = some (.lst xs)
def TpA (w : Wm) (H : Hp) (a : Addr) (xs : List V) : Prop := w a = .no ∧ H a = some (.tup xs)
def ScA (c : Cc) (w : Wm) (H : Hp) (a : Addr) (xs : List V) : Prop := (w a = .no ∧ Rd H a (.lst xs)) ∨ KL c.K a xs

mutual
inductive Is (c : Cc) (w : Wm) (H : Hp) : V → D → Prop
  | non : Is c w H .non .non
  | bl (b : Bool) : Is c w H (.bl b) (.bl b)
  | int (i : Int) : Is c w H (.int i) (.int i)
  | str (x : Str) : Is c w H (.str x) (.str x)
  | lst {a : Addr} {vs : List V} {ds : List D} : LsA w H a vs → IsAll c w H vs ds → Is c w H (.ref a) (.lst ds)
  | tup {a : Addr} {vs : List V} {ds : List D} : TpA w H a vs → IsAll c w H vs ds → Is c w H (.ref a) (.tup ds)
  | obj {a dx : Addr} {vs : List V} {ds : List D} {k : Nat} : w a = .no → H a = some (.ins (c.cl k) dx ((c.fn k).zip vs)) → vs.length ≤ (c.fn k).length → IsAll c w H vs ds → Is c w H (.ref a) (.obj k ds)
  | scr {a : Addr} {ns : List Int} : ScA c w H a (ns.map V.int) → Is c w H (.ref a) (.scr ns)
inductive IsAll (c : Cc) (w : Wm) (H : Hp) : List V → List D → Prop
  | nil : IsAll c w H [] []
  | cons {v : V} {vs : List V} {d : D} {ds : List D} : Is c w H v d → IsAll c w H vs ds → IsAll c w H (v :: vs) (d :: ds)
end
/-- the inner lists of a list of lists, from the n-th on -/
inductive IsRows (c : Cc) (w : Wm) (H : Hp) (k : List Nat → Ow) : Nat → List V → List (List D) → Prop
  | nil {n : Nat} : IsRows c w H k n [] []
  | cons {n : Nat} {a : Addr} {us : List V} {vs : List V} {ds : List D} {dss : List (List D)} : w a = k [n] → H a = some (.lst us) → IsAll c w H us ds → IsRows c w H k (n + 1) vs dss → IsRows c w H k n (.ref a :: vs) (ds :: dss)
mutual
inductive IsO (c : Cc) (w : Wm) (H : Hp) : (List Nat → Ow) → V → OD → Prop
  | leaf {k : List Nat → Ow} {v : V} {d : D} : Is c w H v d → IsO c w H k v (.leaf d)
  | fl {k : List Nat → Ow} {a : Addr} {vs : List V} {ds : List D} : w a = k [] → H a = some (.lst vs) → IsAll c w H vs ds → IsO c w H k (.ref a) (.fl ds)
  | ll {k : List Nat → Ow} {a : Addr} {vs : List V} {dss : List (List D)} : w a = k [] → H a = some (.lst vs) → IsRows c w H k 0 vs dss → IsO c w H k (.ref a) (.ll dss)
  | oobj {k : List Nat → Ow} {a dx : Addr} {vs : List V} {ds : List D} {q : Nat} : w a = k [] → H a = some (.ins (c.cl q) dx ((c.fn q).zip vs)) → vs.length ≤ (c.fn q).length → IsAll c w H vs ds → IsO c w H k (.ref a) (.oobj q ds)
  | nl {k : List Nat → Ow} {a : Addr} {vs : List V} {os : List OD} : w a = k [] → H a = some (.lst vs) → IsOs c w H k 0 vs os → IsO c w H k (.ref a) (.nl os)
  | nt {k : List Nat → Ow} {a : Addr} {vs : List V} {os : List OD} : w a = k [] → H a = some (.tup vs) → IsOs c w H k 0 vs os → IsO c w H k (.ref a) (.nt os)
/-- the items of a list of such, from the n-th on -/
inductive IsOs (c : Cc) (w : Wm) (H : Hp) : (List Nat → Ow) → Nat → List V → List OD → Prop
  | nil {k : List Nat → Ow} {n : Nat} : IsOs c w H k n [] []
  | cons {k : List Nat → Ow} {n : Nat} {v : V} {vs : List V} {o : OD} {os : List OD} : IsO c w H (fun p => k (n :: p)) v o → IsOs c w H k (n + 1) vs os → IsOs c w H k n (v :: vs) (o :: os)
end

/-- what nobody owns (or an outer one owns) stays -/
def Step (w : Wm) (H : Hp) (w' : Wm) (H' : Hp) : Prop := ∀ a o, H a = some o → (w a = .no ∨ w a = .out) → H' a = some o ∧ w' a = w a
theorem Step.refl (w : Wm) (H : Hp) : Step w H w H := fun _ _ h _ => ⟨h, rfl⟩
theorem Step.trans {w w1 w2 : Wm} {H H1 H2 : Hp} (a : Step w H w1 H1) (b : Step w1 H1 w2 H2) : Step w H w2 H2 := fun x o h k => by
  obtain ⟨h1, k1⟩ := a x o h k
  obtain ⟨h2, k2⟩ := b x o h1 (by rw [k1]; exact k)
  exact ⟨h2, k2.trans k1⟩

/-- .. by what nobody owns alone -/
def StepN (w : Wm) (H : Hp) (w' : Wm) (H' : Hp) : Prop := ∀ a o, H a = some o → w a = .no → H' a = some o ∧ w' a = .no
theorem Step.n {w w' : Wm} {H H' : Hp} (s : Step w H w' H') : StepN w H w' H' := fun a o h k => ⟨(s a o h (.inl k)).1, (s a o h (.inl k)).2.trans k⟩
section
variable {c : Cc} {w w' : Wm} {H H' : Hp}
theorem rd_step {a : Addr} {u : HO} (s : StepN w H w' H') (h : w a = .no) (r : Rd H a u) : w' a = .no ∧ Rd H' a u := by
  rcases r with r | ⟨o, r⟩
  · obtain ⟨h1, h2⟩ := s a _ r h
    exact ⟨h2, .inl h1⟩
  · obtain ⟨h1, h2⟩ := s a _ r h
    exact ⟨h2, .inr ⟨o, h1⟩⟩
theorem ScA.stepN {a : Addr} {xs : List V} (s : StepN w H w' H') (h : ScA c w H a xs) : ScA c w' H' a xs := by
  rcases h with ⟨h1, h2⟩ | h
  · exact .inl (rd_step s h1 h2)
  · exact .inr h
theorem LsA.stepN {a : Addr} {xs : List V} (s : StepN w H w' H') (h : LsA w H a xs) : LsA w' H' a xs := ⟨(s a _ h.2 h.1).2, (s a _ h.2 h.1).1⟩
theorem TpA.stepN {a : Addr} {xs : List V} (s : StepN w H w' H') (h : TpA w H a xs) : TpA w' H' a xs := ⟨(s a _ h.2 h.1).2, (s a _ h.2 h.1).1⟩
theorem LsA.step {a : Addr} {xs : List V} (s : Step w H w' H') (h : LsA w H a xs) : LsA w' H' a xs := h.stepN s.n
theorem TpA.step {a : Addr} {xs : List V} (s : Step w H w' H') (h : TpA w H a xs) : TpA w' H' a xs := h.stepN s.n
theorem ScA.sq {a : Addr} {xs : List V} (h : ScA c w H a xs) : SqL c.K H a xs := by
  rcases h with ⟨_, h2⟩ | h
  · exact .inl h2
  · exact .inr h
theorem LsA.sq {K : PySem.W.Frag} {a : Addr} {xs : List V} (h : LsA w H a xs) : SqL K H a xs := .of h.2
theorem TpA.sq {K : PySem.W.Frag} {a : Addr} {xs : List V} (h : TpA w H a xs) : SqT K H a xs := .of h.2
theorem LsA.weak {a : Addr} {xs : List V} (h : LsA w H a xs) : LsA noW H a xs := ⟨rfl, h.2⟩
theorem TpA.weak {a : Addr} {xs : List V} (h : TpA w H a xs) : TpA noW H a xs := ⟨rfl, h.2⟩
theorem ScA.weak {a : Addr} {xs : List V} (h : ScA c w H a xs) : ScA c noW H a xs := by
  rcases h with ⟨_, h2⟩ | h
  · exact .inl ⟨rfl, h2⟩
  · exact .inr h
mutual
theorem Is.stepN (s : StepN w H w' H') : ∀ {v : V} {d : D}, Is c w H v d → Is c w' H' v d
  | _, _, .non => .non
  | _, _, .bl b => .bl b
  | _, _, .int i => .int i
  | _, _, .str x => .str x
  | _, _, .lst h r => .lst (h.stepN s) (IsAll.stepN s r)
  | _, _, .tup h r => .tup (h.stepN s) (IsAll.stepN s r)
  | _, _, .obj h1 h2 h3 r => .obj (s _ _ h2 h1).2 (s _ _ h2 h1).1 h3 (IsAll.stepN s r)
  | _, _, .scr h => .scr (h.stepN s)
theorem IsAll.stepN (s : StepN w H w' H') : ∀ {vs : List V} {ds : List D}, IsAll c w H vs ds → IsAll c w' H' vs ds
  | _, _, .nil => .nil
  | _, _, .cons h r => .cons (Is.stepN s h) (IsAll.stepN s r)
end
theorem Is.step (s : Step w H w' H') {v : V} {d : D} (h : Is c w H v d) : Is c w' H' v d := h.stepN s.n
theorem IsAll.step (s : Step w H w' H') {vs : List V} {ds : List D} (h : IsAll c w H vs ds) : IsAll c w' H' vs ds := h.stepN s.n
mutual
theorem Is.weak : ∀ {v : V} {d : D}, Is c w H v d → Is c noW H v d
  | _, _, .non => .non
  | _, _, .bl b => .bl b
  | _, _, .int i => .int i
  | _, _, .str x => .str x
  | _, _, .lst h r => .lst h.weak (IsAll.weak r)
  | _, _, .tup h r => .tup h.weak (IsAll.weak r)
  | _, _, .obj h1 h2 h3 r => .obj rfl h2 h3 (IsAll.weak r)
  | _, _, .scr h => .scr h.weak
theorem IsAll.weak : ∀ {vs : List V} {ds : List D}, IsAll c w H vs ds → IsAll c noW H vs ds
  | _, _, .nil => .nil
  | _, _, .cons h r => .cons (Is.weak h) (IsAll.weak r)
end
theorem IsRows.read {k : List Nat → Ow} : ∀ {n : Nat} {vs : List V} {dss : List (List D)}, IsRows c w H k n vs dss → IsAll c noW H vs (dss.map D.lst)
  | _, _, _, .nil => .nil
  | _, _, _, .cons _ h r t => .cons (.lst ⟨rfl, h⟩ r.weak) (IsRows.read t)
mutual
theorem IsO.read : ∀ {k : List Nat → Ow} {v : V} {o : OD}, IsO c w H k v o → Is c noW H v o.toD
  | _, _, _, .leaf h => by rw [OD.toD]; exact h.weak
  | _, _, _, .fl _ h r => by rw [OD.toD]; exact .lst ⟨rfl, h⟩ r.weak
  | _, _, _, .ll _ h r => by rw [OD.toD]; exact .lst ⟨rfl, h⟩ r.read
  | _, _, _, .oobj _ h2 h3 r => by rw [OD.toD]; exact .obj rfl h2 h3 r.weak
  | _, _, _, .nl _ h r => by rw [OD.toD]; exact .lst ⟨rfl, h⟩ (IsOs.read r)
  | _, _, _, .nt _ h r => by rw [OD.toD]; exact .tup ⟨rfl, h⟩ (IsOs.read r)
theorem IsOs.read : ∀ {k : List Nat → Ow} {n : Nat} {vs : List V} {os : List OD}, IsOs c w H k n vs os → IsAll c noW H vs (OD.toDs os)
  | _, _, _, _, .nil => by rw [OD.toDs]; exact .nil
  | _, _, _, _, .cons h r => by rw [OD.toDs]; exact .cons (IsO.read h) (IsOs.read r)
end
theorem IsAll.length : ∀ {vs : List V} {ds : List D}, IsAll c w H vs ds → vs.length = ds.length
  | _, _, .nil => rfl
  | _, _, .cons _ r => by rw [List.length_cons, List.length_cons, IsAll.length r]
theorem IsAll.get : ∀ {vs : List V} {ds : List D}, IsAll c w H vs ds → ∀ {i : Nat} {d : D}, ds[i]? = some d → ∃ v, vs[i]? = some v ∧ Is c w H v d
  | _, _, .nil, _, _, e => by simp at e
  | _, _, .cons h r, 0, _, e => by simp at e; subst e; exact ⟨_, rfl, h⟩
  | _, _, .cons h r, i + 1, d, e => by
    obtain ⟨v, e1, e2⟩ := IsAll.get r (i := i) (d := d) (by simpa using e)
    exact ⟨v, by simpa using e1, e2⟩
theorem IsAll.get' : ∀ {vs : List V} {ds : List D}, IsAll c w H vs ds → ∀ {i : Nat} {v : V}, vs[i]? = some v → ∃ d, ds[i]? = some d ∧ Is c w H v d
  | _, _, .nil, _, _, e => by simp at e
  | _, _, .cons h r, 0, _, e => by simp at e; subst e; exact ⟨_, rfl, h⟩
  | _, _, .cons h r, i + 1, d, e => by
    obtain ⟨v, e1, e2⟩ := IsAll.get' r (i := i) (v := d) (by simpa using e)
    exact ⟨v, by simpa using e1, e2⟩
theorem IsAll.append : ∀ {vs us : List V} {ds es : List D}, IsAll c w H vs ds → IsAll c w H us es → IsAll c w H (vs ++ us) (ds ++ es)
  | _, _, _, _, .nil, s => s
  | _, _, _, _, .cons h r, s => .cons h (IsAll.append r s)
theorem IsAll.take : ∀ {vs : List V} {ds : List D} (n : Nat), IsAll c w H vs ds → IsAll c w H (vs.take n) (ds.take n)
  | _, _, 0, _ => .nil
  | _, _, _ + 1, .nil => .nil
  | _, _, n + 1, .cons h r => .cons h (IsAll.take n r)
theorem IsAll.drop : ∀ {vs : List V} {ds : List D} (n : Nat), IsAll c w H vs ds → IsAll c w H (vs.drop n) (ds.drop n)
  | _, _, 0, r => r
  | _, _, _ + 1, .nil => .nil
  | _, _, n + 1, .cons h r => IsAll.drop n r
/-- the kit's own reading -/
theorem can_obj {k : Nat} {ds : List D} (h : (D.py (.obj k ds)).canLay0 = true) : False := by
  rw [D.py] at h; simp [PyData.canLay0] at h
mutual
theorem Is.dp : ∀ {v : V} {d : D}, Is c w H v d → d.py.canLay0 = true → Dp c.K H v d.py
  | _, _, .non, _ => by rw [D.py]; exact .non
  | _, _, .bl b, _ => by rw [D.py]; exact .bl b
  | _, _, .int i, _ => by rw [D.py]; exact .int i
  | _, _, .str x, _ => by rw [D.py]; exact .str x
  | _, _, .lst h r, k => by
    rw [D.py] at k ⊢
    exact .lst h.sq (IsAll.dp r (by simpa [PyData.canLay0] using k))
  | _, _, .tup h r, k => by
    rw [D.py] at k ⊢
    exact .tup h.sq (IsAll.dp r (by simpa [PyData.canLay0] using k))
  | _, _, .obj _ _ _ _, k => (can_obj k).elim
  | _, _, .scr _, k => by rw [D.py] at k; simp [PyData.canLay0] at k
theorem IsAll.dp : ∀ {vs : List V} {ds : List D}, IsAll c w H vs ds → PyData.canLayAll0 (D.pys ds) = true → DpAll c.K H vs (D.pys ds)
  | _, _, .nil, _ => by rw [D.pys]; exact .nil
  | _, _, .cons h r, k => by
    rw [D.pys] at k ⊢
    rw [PyData.canLayAll0, Bool.and_eq_true] at k
    exact .cons (Is.dp h k.1) (IsAll.dp r k.2)
end
theorem Is.shaped {v : V} {d : D} (h : Is c w H v d) (k : SeqAt.shaped d.py = true) : Dp c.K H v d.py := h.dp (SeqAt.canLay_of_shaped k)
end

/-! ### the state -/
def sow (i : Nat) : List Nat → Ow := fun p => .slot i p
def cow (j : Nat) : List Nat → Ow := fun p => .cell j p
def SlotOk (c : Cc) (w : Wm) (rs : List V) (H : Hp) (i : Nat) (x : Option V) : Slot → Prop
  | .no => True
  | .val d => ∃ v, x = some v ∧ Is c w H v d
  | .own o => ∃ v, x = some v ∧ IsO c w H (sow i) v o
  | .ref j => ∃ v, x = some v ∧ rs[j]? = some v
  | .pin d j => ∃ v, x = some v ∧ rs[j]? = some v ∧ Is c w H v d
structure Rel (c : Cc) (w : Wm) (rs : List V) (s : St) (σ : L2.St) (H : Hp) : Prop where
  len : s.L.length = σ.length
  sl : ∀ (i : Nat) (y : Slot) (x : Option V), s.L[i]? = some y → σ[i]? = some x → SlotOk c w rs H i x y
  st : ∀ (j : Nat) (o : OD), s.S[j]? = some o → ∃ v, rs[j]? = some v ∧ IsO c w H (cow j) v o

section
variable {c : Cc} {w w' : Wm} {H H' : Hp} {rs : List V} {s : St} {σ : L2.St}
theorem Rel.at (R : Rel c w rs s σ H) {i : Nat} {y : Slot} (h : s.L[i]? = some y) : ∃ x, σ[i]? = some x ∧ SlotOk c w rs H i x y := by
  have hi : i < σ.length := by rw [← R.len]; exact (List.getElem?_eq_some_iff.mp h).1
  exact ⟨σ[i], by simp [hi], R.sl i y _ h (by simp [hi])⟩
theorem Rel.val (R : Rel c w rs s σ H) {i : Nat} {d : D} (h : s.L[i]? = some (.val d)) : ∃ v, σ[i]? = some (some v) ∧ Is c w H v d := by
  obtain ⟨x, e, v, rfl, q⟩ := R.at h
  exact ⟨v, e, q⟩

/-- a new address: nobody's -/
def wnew (w : Wm) (p : Addr) : Wm := fun a => if a = p then .no else w a
theorem Step.new {p : Addr} {o : HO} (hp : H p = none) : Step w H (wnew w p) (upd H p o) := fun a u h _ => by
  have ne : a ≠ p := ne_of_none h hp
  exact ⟨by rw [upd_ne ne]; exact h, by unfold wnew; rw [if_neg ne]⟩
theorem IsRows.keepN {k : List Nat → Ow} (s : StepN w H w' H') (hk : ∀ a o p, H a = some o → w a = k p → H' a = some o ∧ w' a = w a) :
    ∀ {n : Nat} {vs : List V} {dss : List (List D)}, IsRows c w H k n vs dss → IsRows c w' H' k n vs dss
  | _, _, _, .nil => .nil
  | _, _, _, .cons h1 h2 r t => .cons ((hk _ _ _ h2 h1).2.trans h1) (hk _ _ _ h2 h1).1 (r.stepN s) (IsRows.keepN s hk t)
mutual
theorem IsO.keepN (s : StepN w H w' H') : ∀ {k : List Nat → Ow} {v : V} {o : OD}, (∀ a o p, H a = some o → w a = k p → H' a = some o ∧ w' a = w a) → IsO c w H k v o → IsO c w' H' k v o
  | _, _, _, hk, .leaf h => .leaf (h.stepN s)
  | _, _, _, hk, .fl h1 h2 r => .fl ((hk _ _ _ h2 h1).2.trans h1) (hk _ _ _ h2 h1).1 (r.stepN s)
  | _, _, _, hk, .ll h1 h2 r => .ll ((hk _ _ _ h2 h1).2.trans h1) (hk _ _ _ h2 h1).1 (r.keepN s hk)
  | _, _, _, hk, .oobj h1 h2 h3 r => .oobj ((hk _ _ _ h2 h1).2.trans h1) (hk _ _ _ h2 h1).1 h3 (r.stepN s)
  | _, _, _, hk, .nl h1 h2 r => .nl ((hk _ _ _ h2 h1).2.trans h1) (hk _ _ _ h2 h1).1 (IsOs.keepN s hk r)
  | _, _, _, hk, .nt h1 h2 r => .nt ((hk _ _ _ h2 h1).2.trans h1) (hk _ _ _ h2 h1).1 (IsOs.keepN s hk r)
theorem IsOs.keepN (s : StepN w H w' H') : ∀ {k : List Nat → Ow} {n : Nat} {vs : List V} {os : List OD}, (∀ a o p, H a = some o → w a = k p → H' a = some o ∧ w' a = w a) → IsOs c w H k n vs os → IsOs c w' H' k n vs os
  | _, _, _, _, hk, .nil => .nil
  | _, _, _, _, hk, .cons h r => .cons (IsO.keepN s (fun a o p e1 e2 => hk a o _ e1 e2) h) (IsOs.keepN s hk r)
end
/-- an owned tree stays, where its own addresses and what nobody owns stay -/
theorem IsO.keep {k : List Nat → Ow} (s : Step w H w' H') (hk : ∀ a o p, H a = some o → w a = k p → H' a = some o ∧ w' a = w a) {v : V} {o : OD} (h : IsO c w H k v o) : IsO c w' H' k v o := IsO.keepN s.n hk h
/-- what nobody owns stays, what the slots and cells own stays: the relation does -/
theorem Rel.keepN (R : Rel c w rs s σ H) (st : StepN w H w' H') (hs : ∀ a o i p, H a = some o → w a = .slot i p → H' a = some o ∧ w' a = w a) (hc : ∀ a o i p, H a = some o → w a = .cell i p → H' a = some o ∧ w' a = w a) : Rel c w' rs s σ H' := by
  refine ⟨R.len, fun i y x e1 e2 => ?_, fun j o e => ?_⟩
  · have q := R.sl i y x e1 e2
    cases y with
    | no => trivial
    | val d => obtain ⟨v, e, q⟩ := q; exact ⟨v, e, q.stepN st⟩
    | own o => obtain ⟨v, e, q⟩ := q; exact ⟨v, e, IsO.keepN st (fun a o p e1 e2 => hs a o _ _ e1 e2) q⟩
    | ref j => exact q
    | pin d j => obtain ⟨v, e, e', q⟩ := q; exact ⟨v, e, e', q.stepN st⟩
  · obtain ⟨v, e1, q⟩ := R.st j o e
    exact ⟨v, e1, IsO.keepN st (fun a o p e1 e2 => hc a o _ _ e1 e2) q⟩
/-- all that was tracked stays: the whole relation does -/
theorem Rel.ext (R : Rel c w rs s σ H) (h : ∀ a o, H a = some o → H' a = some o ∧ w' a = w a) : Rel c w' rs s σ H' := by
  have st : Step w H w' H' := fun a o e _ => h a o e
  refine ⟨R.len, fun i y x e1 e2 => ?_, fun j o e => ?_⟩
  · have q := R.sl i y x e1 e2
    cases y with
    | no => trivial
    | val d => obtain ⟨v, e, q⟩ := q; exact ⟨v, e, q.step st⟩
    | own o => obtain ⟨v, e, q⟩ := q; exact ⟨v, e, q.keep st fun a o p e1 _ => h a o e1⟩
    | ref j => exact q
    | pin d j => obtain ⟨v, e, e', q⟩ := q; exact ⟨v, e, e', q.step st⟩
  · obtain ⟨v, e1, q⟩ := R.st j o e
    exact ⟨v, e1, q.keep st fun a o p e1 _ => h a o e1⟩
theorem Rel.new {p : Addr} {o : HO} (R : Rel c w rs s σ H) (hp : H p = none) : Rel c (wnew w p) rs s σ (upd H p o) := by
  refine R.ext fun a u h => ?_
  have ne : a ≠ p := ne_of_none h hp
  exact ⟨by rw [upd_ne ne]; exact h, by unfold wnew; rw [if_neg ne]⟩
theorem Is.newL {p : Addr} {vs : List V} {ds : List D} (r : IsAll c w H vs ds) (hp : H p = none) : Is c (wnew w p) (upd H p (.lst vs)) (.ref p) (.lst ds) :=
  .lst ⟨by unfold wnew; rw [if_pos rfl], upd_same⟩ (r.step (Step.new hp))
theorem Is.newT {p : Addr} {vs : List V} {ds : List D} (r : IsAll c w H vs ds) (hp : H p = none) : Is c (wnew w p) (upd H p (.tup vs)) (.ref p) (.tup ds) :=
  .tup ⟨by unfold wnew; rw [if_pos rfl], upd_same⟩ (r.step (Step.new hp))

/-- own no more -/
def wfree (w : Wm) (i : Nat) : Wm := fun a => match w a with | .slot j p => if j = i then .no else .slot j p | x => x
theorem Step.free (i : Nat) : Step w H (wfree w i) H := fun a o h k => by
  refine ⟨h, ?_⟩
  unfold wfree
  rcases k with k | k <;> rw [k]
theorem wfree_ne {i : Nat} {a : Addr} {k : List Nat → Ow} {p : List Nat} (h : w a = k p) (hk : ∀ p q, k p ≠ .slot i q) : wfree w i a = k p := by
  unfold wfree
  rw [h]
  cases e : k p with
  | slot j q =>
    simp only
    rw [if_neg]
    intro z; subst z
    exact hk p q e
  | _ => rfl
theorem wfree_own {i : Nat} {a : Addr} {p : List Nat} (h : w a = sow i p) : wfree w i a = .no := by
  unfold wfree; rw [h]; simp [sow]
theorem wfree_k {i : Nat} {a : Addr} {k : List Nat → Ow} {p : List Nat} (hk : ∀ p, ∃ q, k p = .slot i q) (h : w a = k p) : wfree w i a = .no := by
  obtain ⟨q, e⟩ := hk p
  exact wfree_own (p := q) (h.trans e)
theorem IsRows.free {i : Nat} {k : List Nat → Ow} (hk : ∀ p, ∃ q, k p = .slot i q) : ∀ {n : Nat} {vs : List V} {dss : List (List D)}, IsRows c w H k n vs dss → IsAll c (wfree w i) H vs (dss.map D.lst)
  | _, _, _, .nil => .nil
  | _, _, _, .cons h1 h r t => .cons (.lst ⟨wfree_k hk h1, h⟩ (r.step (Step.free i))) (IsRows.free hk t)
mutual
theorem IsO.freeK {i : Nat} : ∀ {k : List Nat → Ow} {v : V} {o : OD}, (∀ p, ∃ q, k p = .slot i q) → IsO c w H k v o → Is c (wfree w i) H v o.toD
  | _, _, _, hk, .leaf h => by rw [OD.toD]; exact h.step (Step.free i)
  | _, _, _, hk, .fl h1 h r => by rw [OD.toD]; exact .lst ⟨wfree_k hk h1, h⟩ (r.step (Step.free i))
  | _, _, _, hk, .ll h1 h r => by rw [OD.toD]; exact .lst ⟨wfree_k hk h1, h⟩ (r.free hk)
  | _, _, _, hk, .oobj h1 h2 h3 r => by rw [OD.toD]; exact .obj (wfree_k hk h1) h2 h3 (r.step (Step.free i))
  | _, _, _, hk, .nl h1 h r => by rw [OD.toD]; exact .lst ⟨wfree_k hk h1, h⟩ (IsOs.freeK hk r)
  | _, _, _, hk, .nt h1 h r => by rw [OD.toD]; exact .tup ⟨wfree_k hk h1, h⟩ (IsOs.freeK hk r)
theorem IsOs.freeK {i : Nat} : ∀ {k : List Nat → Ow} {n : Nat} {vs : List V} {os : List OD}, (∀ p, ∃ q, k p = .slot i q) → IsOs c w H k n vs os → IsAll c (wfree w i) H vs (OD.toDs os)
  | _, _, _, _, hk, .nil => by rw [OD.toDs]; exact .nil
  | _, _, _, _, hk, .cons h r => by rw [OD.toDs]; exact .cons (IsO.freeK (fun p => hk _) h) (IsOs.freeK hk r)
end
theorem IsRows.freeG {k : List Nat → Ow} (s : StepN w H w' H') (hk : ∀ a o p, H a = some o → w a = k p → H' a = some o ∧ w' a = .no) : ∀ {n : Nat} {vs : List V} {dss : List (List D)}, IsRows c w H k n vs dss → IsAll c w' H' vs (dss.map D.lst)
  | _, _, _, .nil => .nil
  | _, _, _, .cons h1 h r t => .cons (.lst ⟨(hk _ _ _ h h1).2, (hk _ _ _ h h1).1⟩ (r.stepN s)) (IsRows.freeG s hk t)
mutual
theorem IsO.freeG (s : StepN w H w' H') : ∀ {k : List Nat → Ow} {v : V} {o : OD}, (∀ a o p, H a = some o → w a = k p → H' a = some o ∧ w' a = .no) → IsO c w H k v o → Is c w' H' v o.toD
  | _, _, _, hk, .leaf h => by rw [OD.toD]; exact h.stepN s
  | _, _, _, hk, .fl h1 h r => by rw [OD.toD]; exact .lst ⟨(hk _ _ _ h h1).2, (hk _ _ _ h h1).1⟩ (r.stepN s)
  | _, _, _, hk, .ll h1 h r => by rw [OD.toD]; exact .lst ⟨(hk _ _ _ h h1).2, (hk _ _ _ h h1).1⟩ (r.freeG s hk)
  | _, _, _, hk, .oobj h1 h2 h3 r => by rw [OD.toD]; exact .obj (hk _ _ _ h2 h1).2 (hk _ _ _ h2 h1).1 h3 (r.stepN s)
  | _, _, _, hk, .nl h1 h r => by rw [OD.toD]; exact .lst ⟨(hk _ _ _ h h1).2, (hk _ _ _ h h1).1⟩ (IsOs.freeG s hk r)
  | _, _, _, hk, .nt h1 h r => by rw [OD.toD]; exact .tup ⟨(hk _ _ _ h h1).2, (hk _ _ _ h h1).1⟩ (IsOs.freeG s hk r)
theorem IsOs.freeG (s : StepN w H w' H') : ∀ {k : List Nat → Ow} {n : Nat} {vs : List V} {os : List OD}, (∀ a o p, H a = some o → w a = k p → H' a = some o ∧ w' a = .no) → IsOs c w H k n vs os → IsAll c w' H' vs (OD.toDs os)
  | _, _, _, _, hk, .nil => by rw [OD.toDs]; exact .nil
  | _, _, _, _, hk, .cons h r => by rw [OD.toDs]; exact .cons (IsO.freeG s (fun a o p => hk a o _) h) (IsOs.freeG s hk r)
end
theorem leafD_eq {o : OD} : o.leafD = some o.toD := by cases o <;> simp [OD.leafD, OD.toD]
theorem IsO.free {i : Nat} {v : V} {o : OD} (h : IsO c w H (sow i) v o) : Is c (wfree w i) H v o.toD := IsO.freeK (fun p => ⟨p, rfl⟩) h
theorem Rel.free (R : Rel c w rs s σ H) {i : Nat} {o : OD} (h : s.L[i]? = some (.own o)) : ∃ v, σ[i]? = some (some v) ∧ Rel c (wfree w i) rs { s with L := s.L.set i (.val o.toD) } σ H ∧ Is c (wfree w i) H v o.toD := by
  obtain ⟨x, e, v, rfl, q⟩ := R.at h
  refine ⟨v, e, ⟨by simpa using R.len, fun j y x e1 e2 => ?_, fun j o e => ?_⟩, q.free⟩
  · by_cases hj : j = i
    · subst hj
      rw [List.getElem?_set_self (by exact (List.getElem?_eq_some_iff.mp h).1)] at e1
      cases e1
      rw [e] at e2; cases e2
      exact ⟨v, rfl, q.free⟩
    · rw [List.getElem?_set_ne (Ne.symm hj)] at e1
      have z := R.sl j y x e1 e2
      cases y with
      | no => trivial
      | val d => obtain ⟨v, e, q⟩ := z; exact ⟨v, e, q.step (Step.free i)⟩
      | own o =>
        obtain ⟨v, e, q⟩ := z
        refine ⟨v, e, q.keep (Step.free i) fun a o p e1 e2 => ⟨e1, ?_⟩⟩
        rw [e2]
        exact wfree_ne e2 fun p q z => by unfold sow at z; injection z with z1 _; exact hj z1
      | ref j => exact z
      | pin d j => obtain ⟨v, e, e', q⟩ := z; exact ⟨v, e, e', q.step (Step.free i)⟩
  · obtain ⟨v, e1, q⟩ := R.st j o e
    refine ⟨v, e1, q.keep (Step.free i) fun a o p e1 e2 => ⟨e1, ?_⟩⟩
    rw [e2]
    exact wfree_ne e2 fun p q z => by unfold cow at z; cases z
/-- a look in passing -/
theorem Rel.peek (R : Rel c w rs s σ H) {i : Nat} {o : OD} (h : peekO s i = some o) : ∃ v k, σ[i]? = some (some v) ∧ IsO c w H k v o := by
  unfold peekO at h
  split at h
  · rename_i d e
    cases h
    obtain ⟨v, e, q⟩ := R.val e
    exact ⟨v, sow i, e, .leaf q⟩
  · rename_i o' e
    cases h
    obtain ⟨x, e, v, rfl, q⟩ := R.at e
    exact ⟨v, sow i, e, q⟩
  · rename_i j e
    obtain ⟨x, e, v, rfl, e1⟩ := R.at e
    obtain ⟨v', e3, q⟩ := R.st j o h
    rw [e1] at e3; cases e3
    exact ⟨v, cow j, e, q⟩
  · rename_i d j e
    cases h
    obtain ⟨x, e, v, rfl, e1, q⟩ := R.at e
    exact ⟨v, sow i, e, .leaf q⟩
  · cases h
end
end Dm

/-! The D machine: expressions are read as they mean. -/
namespace Dm
open PySem L2

theorem bnd_some {α β : Type} {m : M α} {k : α → M β} {s : St} {r : β × St} : bnd m k s = some r ↔ ∃ a s', m s = some (a, s') ∧ k a s' = some r := by
  unfold bnd
  constructor
  · intro h
    split at h
    · cases h
    · rename_i a s' e; exact ⟨a, s', e, h⟩
  · rintro ⟨a, s', e, h⟩
    rw [e]; exact h
theorem ret_some {α : Type} {a : α} {s : St} {r : α × St} : ret a s = some r ↔ r = (a, s) := by
  unfold ret
  constructor
  · intro h; exact (Option.some.inj h).symm
  · rintro rfl; rfl
theorem ofO_some {α : Type} {o : Option α} {s : St} {r : α × St} : ofO o s = some r ↔ ∃ a, o = some a ∧ r = (a, s) := by
  cases o with
  | none => simp [ofO, fail]
  | some a => simp [ofO, ret_some]
theorem fail_some {α : Type} {s : St} {r : α × St} : fail s = some r ↔ False := by simp [fail]

def tM (c : Cc) (P : Wm → Hp → V → D → Prop) (m : M D) : TE := fun σ H Q => ∃ w rs s d s', Rel c w rs s σ H ∧ m s = some (d, s') ∧
  ∀ v H' w', Rel c w' rs s' σ H' → P w' H' v d → Step w H w' H' → Q v H'
/-- an expression; an operand -/
abbrev tE (c : Cc) (m : M D) : TE := tM c (Is c) m
abbrev tR (c : Cc) (m : M D) : TE := tM c (fun _ => Is c noW) m
def tL (c : Cc) (m : M (List D)) : TA := fun σ H Q => ∃ w rs s d s', Rel c w rs s σ H ∧ m s = some (d, s') ∧
  ∀ v H' w', Rel c w' rs s' σ H' → IsAll c w' H' v d → Step w H w' H' → Q v H'
def tBo (c : Cc) (m : M Bool) : TT := fun σ H Q => ∃ w rs s d s', Rel c w rs s σ H ∧ m s = some (d, s') ∧
  ∀ H' w', Rel c w' rs s' σ H' → Step w H w' H' → Q d H'
def trM (m : M D) : M Bool := bnd m fun x => ofO x.tr

section
variable {X : Cx} {c : Cc} {e : Expr} {es : List Expr}
theorem pimp {t t' : TE} (h : PE X e t) (k : ∀ σ H Q, t' σ H Q → t σ H Q) : PE X e t' := ⟨fun pins s σ H Q I q => h.run pins s σ H Q I (k σ H Q q)⟩
theorem pimpA {t t' : TA} (h : PA X es t) (k : ∀ σ H Q, t' σ H Q → t σ H Q) : PA X es t' := ⟨fun pos pins s σ H Q I q => h.run pos pins s σ H Q I (k σ H Q q)⟩
theorem pimpT {t t' : TT} (h : PT X e t) (k : ∀ σ H Q, t' σ H Q → t σ H Q) : PT X e t' := ⟨fun pins s σ H Q I q => h.run pins s σ H Q I (k σ H Q q)⟩

theorem tE_r {m : M D} (h : PE X e (tE c m)) : PE X e (tR c m) := pimp h fun σ H Q ⟨w, rs, s, d, s', R, e, k⟩ => ⟨w, rs, s, d, s', R, e, fun v H' w' R' q st => k v H' w' R' q.weak st⟩

/-- a name -/
theorem d_var {i : Nat} (h : PE X e (tVar i)) : PE X e (tE c (readVar i)) := pimp h fun σ H Q ⟨w, rs, s, d, s', R, e, k⟩ => by
  unfold readVar at e
  split at e
  · rename_i d' e'
    cases e
    obtain ⟨v, e2, q⟩ := R.val e'
    exact ⟨v, e2, k v H w R q (Step.refl _ _)⟩
  · rename_i o e'
    cases e
    obtain ⟨v, e2, R', q⟩ := R.free e'
    exact ⟨v, e2, k v H _ R' q (Step.free i)⟩
  · rename_i d' j e'
    cases e
    obtain ⟨x, e2, v, rfl, _, q⟩ := R.at e'
    exact ⟨v, e2, k v H w R q (Step.refl _ _)⟩
  · cases e
theorem d_bv {i : Nat} (h : PE X e (tVar i)) : PE X e (tR c (peek i)) := pimp h fun σ H Q ⟨w, rs, s, d, s', R, e, k⟩ => by
  unfold peek at e
  split at e
  · rename_i o e'
    cases e
    obtain ⟨v, kk, e2, q⟩ := R.peek e'
    exact ⟨v, e2, k v H w R q.read (Step.refl _ _)⟩
  · cases e
theorem d_con {v : V} {d : D} (h : PE X e (tC v)) (hv : ∀ w H, Is c w H v d) : PE X e (tE c (ofO (some d))) := pimp h fun σ H Q ⟨w, rs, s, d', s', R, e, k⟩ => by
  obtain ⟨a, ea, eb⟩ := ofO_some.mp e
  cases ea; cases eb
  exact k v H w R (hv w H) (Step.refl _ _)

/-- what is wanted of an operation by values -/
def Op2 (c : Cc) (P1 P2 : Wm → Hp → V → D → Prop) (f : D → D → Option D) (r : R2) : Prop :=
  ∀ w H x y d1 d2 d (Q : VK), P1 w H x d1 → P2 w H y d2 → f d1 d2 = some d → (∀ v H' w', (∀ a o, H a = some o → H' a = some o ∧ w' a = w a) → Is c w' H' v d → Q v H') → r x y H Q
def Op1 (c : Cc) (P1 : Wm → Hp → V → D → Prop) (f : D → Option D) (r : V → Hp → VK → Prop) : Prop :=
  ∀ w H x d1 d (Q : VK), P1 w H x d1 → f d1 = some d → (∀ v H' w', (∀ a o, H a = some o → H' a = some o ∧ w' a = w a) → Is c w' H' v d → Q v H') → r x H Q
abbrev Rd0 (c : Cc) : Wm → Hp → V → D → Prop := fun _ => Is c noW
theorem i_two {P2 : Wm → Hp → V → D → Prop} {m1 m2 : M D} {f : D → D → Option D} {r : R2} (hr : Op2 c (Is c) P2 f r) :
    ∀ σ H Q, tE c (bnd m1 fun x => bnd m2 fun y => ofO (f x y)) σ H Q → tOp r (tE c m1) (tM c P2 m2) σ H Q := fun σ H Q ⟨w, rs, s, d, s', R, e, k⟩ => by
  obtain ⟨d1, s1, e1, e⟩ := bnd_some.mp e
  obtain ⟨d2, s2, e2, e⟩ := bnd_some.mp e
  obtain ⟨d3, e3, e⟩ := ofO_some.mp e
  cases e
  refine ⟨w, rs, s, d1, s1, R, e1, fun v1 H1 w1 R1 q1 st1 => ?_⟩
  refine ⟨w1, rs, s1, d2, _, R1, e2, fun v2 H2 w2 R2 q2 st2 => ?_⟩
  refine hr w2 H2 v1 v2 d1 d2 _ Q (q1.step st2) q2 e3 fun v H' w' hx q => ?_
  have st3 : Step w2 H2 w' H' := fun a o e _ => hx a o e
  exact k v H' w' (R2.ext hx) q ((st1.trans st2).trans st3)
theorem d_two {P2 : Wm → Hp → V → D → Prop} {m1 m2 : M D} {f : D → D → Option D} {e : Expr} {r : R2} (h : PE X e (tOp r (tE c m1) (tM c P2 m2))) (hr : Op2 c (Is c) P2 f r) :
    PE X e (tE c (bnd m1 fun x => bnd m2 fun y => ofO (f x y))) := pimp h (i_two hr)
theorem d_one {P1 : Wm → Hp → V → D → Prop} {m1 : M D} {f : D → Option D} {e : Expr} {r : V → Hp → VK → Prop} (h : PE X e (tUn r (tM c P1 m1))) (hr : Op1 c P1 f r) :
    PE X e (tE c (bnd m1 fun x => ofO (f x))) := pimp h fun σ H Q ⟨w, rs, s, d, s', R, e, k⟩ => by
  obtain ⟨d1, s1, e1, e⟩ := bnd_some.mp e
  obtain ⟨d3, e3, e⟩ := ofO_some.mp e
  cases e
  refine ⟨w, rs, s, d1, _, R, e1, fun v1 H1 w1 R1 q1 st1 => ?_⟩
  refine hr w1 H1 v1 d1 _ Q q1 e3 fun v H' w' hx q => ?_
  have st3 : Step w1 H1 w' H' := fun a o e _ => hx a o e
  exact k v H' w' (R1.ext hx) q (st1.trans st3)
/-- the first operand a name that is looked at when the second stands -/
theorem Rel.peekV {w : Wm} {rs : List V} {s s' : St} {σ : L2.St} {H : Hp} {i : Nat} {d : D} (R : Rel c w rs s σ H) (h : Dm.peek i s = some (d, s')) : s' = s ∧ ∃ v o k, σ[i]? = some (some v) ∧ IsO c w H k v o ∧ d = o.toD ∧ peekO s i = some o := by
  unfold Dm.peek at h
  split at h
  · rename_i o e'
    cases h
    obtain ⟨v, kk, e2, q⟩ := R.peek e'
    exact ⟨rfl, v, o, kk, e2, q, rfl, e'⟩
  · cases h
theorem i_bvtwo {P2 : Wm → Hp → V → D → Prop} {i : Nat} {m2 : M D} {f : D → D → Option D} {r : R2} (hr : Op2 c (Rd0 c) P2 f r) :
    ∀ σ H Q, tE c (bnd (peek i) fun _ => bnd m2 fun y => bnd (peek i) fun x => ofO (f x y)) σ H Q → tOp r (tVar i) (tM c P2 m2) σ H Q := fun σ H Q ⟨w, rs, s, d, s', R, e, k⟩ => by
  obtain ⟨d0, s0, e0, e5⟩ := bnd_some.mp e
  obtain ⟨d2, s2, e2, e6⟩ := bnd_some.mp e5
  obtain ⟨d1, s1, e1, e7⟩ := bnd_some.mp e6
  obtain ⟨d3, e3, e8⟩ := ofO_some.mp e7
  injection e8 with e8 e9
  subst e8 e9
  obtain ⟨rfl, v, o, kk, hv, _, _, _⟩ := R.peekV e0
  refine ⟨v, hv, w, rs, s0, d2, s2, R, e2, fun v2 H2 w2 R2 q2 st2 => ?_⟩
  obtain ⟨rfl, v', o', kk', hv', q1, rfl, _⟩ := R2.peekV e1
  rw [hv] at hv'; cases hv'
  refine hr w2 H2 v v2 _ d2 _ Q q1.read q2 e3 fun v H' w' hx q => ?_
  have st3 : Step w2 H2 w' H' := fun a o e _ => hx a o e
  exact k v H' w' (R2.ext hx) q (st2.trans st3)
theorem d_bvtwo {P2 : Wm → Hp → V → D → Prop} {i : Nat} {m2 : M D} {f : D → D → Option D} {e : Expr} {r : R2} (h : PE X e (tOp r (tVar i) (tM c P2 m2))) (hr : Op2 c (Rd0 c) P2 f r) :
    PE X e (tE c (bnd (peek i) fun _ => bnd m2 fun y => bnd (peek i) fun x => ofO (f x y))) := pimp h (i_bvtwo hr)
/-- arguments -/
theorem d_nil : PA X [] (tL c (ret [])) := pimpA pa_nil fun σ H Q ⟨w, rs, s, d, s', R, e, k⟩ => by
  cases ret_some.mp e
  exact k [] H w R .nil (Step.refl _ _)
theorem d_cons {m : M D} {ms : M (List D)} {e : Expr} (h : PA X (e :: es) (tCons (tE c m) (tL c ms))) : PA X (e :: es) (tL c (bnd m fun d => bnd ms fun ds => ret (d :: ds))) := pimpA h fun σ H Q ⟨w, rs, s, d, s', R, e, k⟩ => by
  obtain ⟨d1, s1, e1, e⟩ := bnd_some.mp e
  obtain ⟨d2, s2, e2, e⟩ := bnd_some.mp e
  cases ret_some.mp e
  refine ⟨w, rs, s, d1, s1, R, e1, fun v1 H1 w1 R1 q1 st1 => ?_⟩
  refine ⟨w1, rs, s1, d2, _, R1, e2, fun v2 H2 w2 R2 q2 st2 => ?_⟩
  exact k _ H2 w2 R2 (.cons (q1.step st2) q2) (st1.trans st2)
theorem d_tup {ms : M (List D)} {e : Expr} (h : PE X e (tTup (tL c ms))) : PE X e (tE c (bnd ms fun ds => if ds.length ≤ sizeLine then ret (.tup ds) else fail)) := pimp h fun σ H Q ⟨w, rs, s, d, s', R, e, k⟩ => by
  obtain ⟨d1, s1, e1, e⟩ := bnd_some.mp e
  split at e
  · rename_i hz
    cases ret_some.mp e
    refine ⟨w, rs, s, d1, _, R, e1, fun v1 H1 w1 R1 q1 st1 => ⟨by rw [q1.length]; exact hz, fun p hp => ?_⟩⟩
    exact k _ _ _ (R1.new hp) (Is.newT q1 hp) (st1.trans (Step.new hp))
  · exact (fail_some.mp e).elim
theorem d_lst {ms : M (List D)} {e : Expr} (h : PE X e (tLst (tL c ms))) : PE X e (tE c (bnd ms fun ds => if ds.length ≤ sizeLine then ret (.lst ds) else fail)) := pimp h fun σ H Q ⟨w, rs, s, d, s', R, e, k⟩ => by
  obtain ⟨d1, s1, e1, e⟩ := bnd_some.mp e
  split at e
  · rename_i hz
    cases ret_some.mp e
    refine ⟨w, rs, s, d1, _, R, e1, fun v1 H1 w1 R1 q1 st1 => ⟨by rw [q1.length]; exact hz, fun p hp => ?_⟩⟩
    exact k _ _ _ (R1.new hp) (Is.newL q1 hp) (st1.trans (Step.new hp))
  · exact (fail_some.mp e).elim

/-! ### tests, and, or, not -/
theorem d_tval {m : M D} {e : Expr} (h : PT X e (tB (tE c m))) : PT X e (tBo c (trM m)) := pimpT h fun σ H Q ⟨w, rs, s, d, s', R, e, k⟩ => by
  obtain ⟨d1, s1, e1, e⟩ := bnd_some.mp e
  obtain ⟨b, e2, e⟩ := ofO_some.mp e
  cases e
  refine ⟨w, rs, s, d1, _, R, e1, fun v1 H1 w1 R1 q1 st1 => ?_⟩
  cases d1 <;> simp only [D.tr] at e2 <;> try cases e2
  cases q1
  exact ⟨_, rfl, k H1 w1 R1 st1⟩
theorem d_not {m : M D} {e : Expr} (h : PE X e (tNotV (tE c m))) : PE X e (tE c (bnd m fun x => bnd (ofO x.tr) fun b => ret (.bl !b))) := pimp h fun σ H Q ⟨w, rs, s, d, s', R, e, k⟩ => by
  obtain ⟨d1, s1, e1, e⟩ := bnd_some.mp e
  obtain ⟨b, s2, e2, e⟩ := bnd_some.mp e
  obtain ⟨b', e3, e4⟩ := ofO_some.mp e2
  cases e4
  cases ret_some.mp e
  refine ⟨w, rs, s, d1, _, R, e1, fun v1 H1 w1 R1 q1 st1 => ?_⟩
  cases d1 <;> simp only [D.tr] at e3 <;> try cases e3
  cases q1
  exact ⟨_, rfl, k _ H1 w1 R1 (.bl _) st1⟩
/-- a op b op .. -/
theorem d_and {m m' : M D} {e : Expr} (h : PE X e (tAndV (tE c m) (tE c m'))) : PE X e (tE c (bnd m fun x => bnd (ofO x.tr) fun b => if b then m' else ret x)) := pimp h fun σ H Q ⟨w, rs, s, d, s', R, e, k⟩ => by
  obtain ⟨d1, s1, e1, e5⟩ := bnd_some.mp e
  obtain ⟨b, s2, e2, e6⟩ := bnd_some.mp e5
  obtain ⟨b', e3, e4⟩ := ofO_some.mp e2
  injection e4 with z1 z2
  subst z1 z2
  refine ⟨w, rs, s, d1, s2, R, e1, fun v1 H1 w1 R1 q1 st1 => ?_⟩
  cases d1 <;> simp only [D.tr] at e3 <;> try cases e3
  cases q1
  refine ⟨_, rfl, ?_⟩
  split at e6
  · rename_i hb
    rw [if_pos hb]
    exact ⟨w1, rs, s2, d, s', R1, e6, fun v H' w' R' q st => k v H' w' R' q (st1.trans st)⟩
  · rename_i hb
    rw [if_neg hb]
    cases ret_some.mp e6
    rw [Bool.not_eq_true] at hb
    subst hb
    exact k _ H1 w1 R1 (.bl _) st1
theorem d_or {m m' : M D} {e : Expr} (h : PE X e (tOrV (tE c m) (tE c m'))) : PE X e (tE c (bnd m fun x => bnd (ofO x.tr) fun b => if b then ret x else m')) := pimp h fun σ H Q ⟨w, rs, s, d, s', R, e, k⟩ => by
  obtain ⟨d1, s1, e1, e5⟩ := bnd_some.mp e
  obtain ⟨b, s2, e2, e6⟩ := bnd_some.mp e5
  obtain ⟨b', e3, e4⟩ := ofO_some.mp e2
  injection e4 with z1 z2
  subst z1 z2
  refine ⟨w, rs, s, d1, s2, R, e1, fun v1 H1 w1 R1 q1 st1 => ?_⟩
  cases d1 <;> simp only [D.tr] at e3 <;> try cases e3
  cases q1
  refine ⟨_, rfl, ?_⟩
  split at e6
  · rename_i hb
    rw [if_pos hb]
    cases ret_some.mp e6
    subst hb
    exact k _ H1 w1 R1 (.bl _) st1
  · rename_i hb
    rw [if_neg hb]
    exact ⟨w1, rs, s2, d, s', R1, e6, fun v H' w' R' q st => k v H' w' R' q (st1.trans st)⟩
/-- .. as tests -/
theorem i_tand {m m' : M D} : ∀ σ H Q, tBo c (trM (bnd m fun x => bnd (ofO x.tr) fun b => if b then m' else ret x)) σ H Q → tAnd (tBo c (trM m)) (tBo c (trM m')) σ H Q := fun σ H Q ⟨w, rs, s, d, s', R, e, k⟩ => by
  obtain ⟨d0, s0, e0, e00⟩ := bnd_some.mp e
  obtain ⟨d1, s1, e1, e5⟩ := bnd_some.mp e0
  obtain ⟨b, s2, e2, e6⟩ := bnd_some.mp e5
  refine ⟨w, rs, s, b, s2, R, bnd_some.mpr ⟨d1, s1, e1, e2⟩, fun H1 w1 R1 st1 => ?_⟩
  split at e6
  · rename_i hb
    rw [if_pos hb]
    exact ⟨w1, rs, s2, d, s', R1, bnd_some.mpr ⟨_, _, e6, e00⟩, fun H' w' R' st => k H' w' R' (st1.trans st)⟩
  · rename_i hb
    rw [if_neg hb]
    cases ret_some.mp e6
    obtain ⟨b', e3, e4⟩ := ofO_some.mp e2
    obtain ⟨b'', e3', e4'⟩ := ofO_some.mp e00
    rw [e3] at e3'; cases e3'
    injection e4 with z1 z2
    injection e4' with z3 z4
    subst z1 z2 z3 z4
    rw [Bool.not_eq_true] at hb
    subst hb
    exact k H1 w1 R1 st1
theorem i_tor {m m' : M D} : ∀ σ H Q, tBo c (trM (bnd m fun x => bnd (ofO x.tr) fun b => if b then ret x else m')) σ H Q → tOr (tBo c (trM m)) (tBo c (trM m')) σ H Q := fun σ H Q ⟨w, rs, s, d, s', R, e, k⟩ => by
  obtain ⟨d0, s0, e0, e00⟩ := bnd_some.mp e
  obtain ⟨d1, s1, e1, e5⟩ := bnd_some.mp e0
  obtain ⟨b, s2, e2, e6⟩ := bnd_some.mp e5
  refine ⟨w, rs, s, b, s2, R, bnd_some.mpr ⟨d1, s1, e1, e2⟩, fun H1 w1 R1 st1 => ?_⟩
  split at e6
  · rename_i hb
    rw [if_pos hb]
    cases ret_some.mp e6
    obtain ⟨b', e3, e4⟩ := ofO_some.mp e2
    obtain ⟨b'', e3', e4'⟩ := ofO_some.mp e00
    rw [e3] at e3'; cases e3'
    injection e4 with z1 z2
    injection e4' with z3 z4
    subst z1 z2 z3 z4
    subst hb
    exact k H1 w1 R1 st1
  · rename_i hb
    rw [if_neg hb]
    exact ⟨w1, rs, s2, d, s', R1, bnd_some.mpr ⟨_, _, e6, e00⟩, fun H' w' R' st => k H' w' R' (st1.trans st)⟩
theorem d_tnot {m : M D} {e : Expr} (h : PT X e (tNot (tBo c (trM m)))) : PT X e (tBo c (trM (bnd m fun x => bnd (ofO x.tr) fun b => ret (.bl !b)))) := pimpT h fun σ H Q ⟨w, rs, s, d, s', R, e, k⟩ => by
  obtain ⟨d0, s0, e0, e00⟩ := bnd_some.mp e
  obtain ⟨d1, s1, e1, e5⟩ := bnd_some.mp e0
  obtain ⟨b, s2, e2, e6⟩ := bnd_some.mp e5
  cases ret_some.mp e6
  obtain ⟨b'', e3', e4'⟩ := ofO_some.mp e00
  simp only [D.tr] at e3'
  cases e3'
  injection e4' with z3 z4
  subst z3 z4
  exact ⟨w, rs, s, b, _, R, bnd_some.mpr ⟨d1, s1, e1, e2⟩, fun H1 w1 R1 st1 => k H1 w1 R1 st1⟩
theorem d_ife {m ma mb : M D} {e : Expr} (h : PE X e (tIf (tBo c (trM m)) (tE c ma) (tE c mb))) : PE X e (tE c (bnd m fun x => bnd (ofO x.tr) fun b' => if b' then ma else mb)) := pimp h fun σ H Q ⟨w, rs, s, d, s', R, e, k⟩ => by
  obtain ⟨d1, s1, e1, e5⟩ := bnd_some.mp e
  obtain ⟨b, s2, e2, e6⟩ := bnd_some.mp e5
  refine ⟨w, rs, s, b, s2, R, bnd_some.mpr ⟨d1, s1, e1, e2⟩, fun H1 w1 R1 st1 => ?_⟩
  split at e6
  · rename_i hb
    rw [if_pos hb]
    exact ⟨w1, rs, s2, d, s', R1, e6, fun v H' w' R' q st => k v H' w' R' q (st1.trans st)⟩
  · rename_i hb
    rw [if_neg hb]
    exact ⟨w1, rs, s2, d, s', R1, e6, fun v H' w' R' q st => k v H' w' R' q (st1.trans st)⟩
/-- a op b op' c -/
theorem i_chain {m1 m2 m3 : M D} {f f' : D → D → Option D} {r r' : R2} (hr : Op2 c (Is c) (Is c) f r) (hr' : Op2 c (Is c) (Is c) f' r') :
    ∀ σ H Q, tE c (bnd m1 fun x => bnd m2 fun y => bnd (ofO (f x y)) fun r => bnd (ofO r.tr) fun b => if b then bnd m3 fun z => ofO (f' y z) else ret r) σ H Q → tChain r r' (tE c m1) (tE c m2) (tE c m3) σ H Q := fun σ H Q ⟨w, rs, s, d, s', R, e, k⟩ => by
  obtain ⟨d1, s1, e1, e5⟩ := bnd_some.mp e
  obtain ⟨d2, s2, e2, e6⟩ := bnd_some.mp e5
  obtain ⟨d3, s3, e3, e7⟩ := bnd_some.mp e6
  obtain ⟨b, s4, e4, e8⟩ := bnd_some.mp e7
  obtain ⟨z, ez, ez'⟩ := ofO_some.mp e3
  injection ez' with z1 z2; subst z1 z2
  obtain ⟨z, ey, ey'⟩ := ofO_some.mp e4
  injection ey' with z1 z2; subst z1 z2
  refine ⟨w, rs, s, d1, s1, R, e1, fun v1 H1 w1 R1 q1 st1 => ?_⟩
  refine ⟨w1, rs, s1, d2, s4, R1, e2, fun v2 H2 w2 R2 q2 st2 => ?_⟩
  refine hr w2 H2 v1 v2 d1 d2 _ _ (q1.step st2) q2 ez fun v H3 w3 hx q => ?_
  have st3 : Step w2 H2 w3 H3 := fun a o e _ => hx a o e
  cases d3 <;> simp only [D.tr] at ey <;> try cases ey
  cases q
  refine ⟨_, rfl, ?_⟩
  split at e8
  · rename_i hb
    rw [if_pos hb]
    obtain ⟨d5, s5, e9, e10⟩ := bnd_some.mp e8
    obtain ⟨z, ew, ew'⟩ := ofO_some.mp e10
    injection ew' with z1 z2; subst z1 z2
    refine ⟨w3, rs, s4, d5, s', R2.ext hx, e9, fun v5 H5 w5 R5 q5 st5 => ?_⟩
    refine hr' w5 H5 v2 v5 d2 d5 _ Q ((q2.step st3).step st5) q5 ew fun v6 H6 w6 hx6 q6 => ?_
    have st6 : Step w5 H5 w6 H6 := fun a o e _ => hx6 a o e
    exact k v6 H6 w6 (R5.ext hx6) q6 ((((st1.trans st2).trans st3).trans st5).trans st6)
  · rename_i hb
    rw [if_neg hb]
    cases ret_some.mp e8
    rw [Bool.not_eq_true] at hb
    subst hb
    exact k _ H3 w3 (R2.ext hx) (.bl _) ((st1.trans st2).trans st3)
/-- a test by what the value is -/
theorem i_tr {m : M D} : ∀ σ H Q, tBo c (trM m) σ H Q → tE c m σ H (fun x H' => ∃ k, x = .bl k ∧ Q k H') := fun σ H Q ⟨w, rs, s, d, s', R, e, k⟩ => by
  obtain ⟨d1, s1, e1, e⟩ := bnd_some.mp e
  obtain ⟨b, e2, e⟩ := ofO_some.mp e
  cases e
  refine ⟨w, rs, s, d1, _, R, e1, fun v1 H1 w1 R1 q1 st1 => ?_⟩
  cases d1 <;> simp only [D.tr] at e2 <;> try cases e2
  cases q1
  exact ⟨_, rfl, k H1 w1 R1 st1⟩
theorem pimpW {e : Expr} {t t' : TT} (h : PW X e t) (k : ∀ σ H Q, t' σ H Q → t σ H Q) : PW X e t' := ⟨fun wh pins s σ H Q I q => h.run wh pins s σ H Q I (k σ H Q q)⟩
end
end Dm

/-! The D machine: operations by values. -/
namespace Dm
open PySem L2 PyProof.Rows
section
variable {X : Cx} {c : Cc} {e : Expr} {es : List Expr}
abbrev Same2 (w : Wm) (H : Hp) (w' : Wm) (H' : Hp) : Prop := ∀ a o, H a = some o → H' a = some o ∧ w' a = w a
theorem Same2.refl (w : Wm) (H : Hp) : Same2 w H w H := fun _ _ h => ⟨h, rfl⟩
theorem Same2.new {w : Wm} {H : Hp} {p : Addr} {o : HO} (hp : H p = none) : Same2 w H (wnew w p) (upd H p o) := fun a u h => by
  have ne : a ≠ p := ne_of_none h hp
  exact ⟨by rw [upd_ne ne]; exact h, by unfold wnew; rw [if_neg ne]⟩
theorem IsAll.repl {w : Wm} {H : Hp} {vs : List V} {ds : List D} (r : IsAll c w H vs ds) : ∀ n, IsAll c w H (List.replicate n vs).flatten (List.replicate n ds).flatten
  | 0 => .nil
  | n + 1 => by rw [List.replicate_succ, List.replicate_succ, List.flatten_cons, List.flatten_cons]; exact r.append (IsAll.repl r n)
def rBin (op : Operator) : R2 :=
  match op with
  | .Add => fun x y H Q => (rI0 fun i j => .int (i + j)) x y H Q ∨ rCat x y H Q
  | .Sub => rI0 fun i j => .int (i - j)
  | .Mult => fun x y H Q => (rI CMul fun i j => .int (i * j)) x y H Q ∨ rRep x y H Q
  | .FloorDiv => rI CDiv fun i j => .int (i / j)
  | .Mod => rI (fun _ j => 0 < j) fun i j => .int (i % j)
  | .Pow => rI CPow fun i j => .int (i ^ j.toNat)
  | _ => fun _ _ _ _ => False
theorem opr_bin (op : Operator) : OpR X (binaryOp op) (rBin op) := by
  cases op <;> first
    | exact OpR.or op_add op_cat
    | exact op_sub
    | exact OpR.or op_mul op_rep
    | exact op_fdiv
    | exact op_mod
    | exact op_pow
    | exact fun _ _ _ _ _ _ _ _ _ _ _ _ h => h.elim
theorem op2_bin (op : Operator) : Op2 c (Is c) (Is c) (binD op) (rBin op) := by
  intro w H x y d1 d2 d Q h1 h2 e k
  unfold binD at e
  split at e
  · cases e; cases h1; cases h2
    exact .inl ⟨_, _, rfl, rfl, k _ H w (Same2.refl _ _) (.int _)⟩
  · cases e; cases h1; cases h2
    exact ⟨_, _, rfl, rfl, k _ H w (Same2.refl _ _) (.int _)⟩
  · split at e
    · rename_i hc
      cases e; cases h1; cases h2
      exact .inl ⟨_, _, rfl, rfl, hc, k _ H w (Same2.refl _ _) (.int _)⟩
    · cases e
  · split at e
    · rename_i hc
      cases e; cases h1; cases h2
      exact ⟨_, _, rfl, rfl, hc, k _ H w (Same2.refl _ _) (.int _)⟩
    · cases e
  · split at e
    · rename_i hc
      cases e; cases h1; cases h2
      exact ⟨_, _, rfl, rfl, hc, k _ H w (Same2.refl _ _) (.int _)⟩
    · cases e
  · split at e
    · rename_i hc
      cases e; cases h1; cases h2
      exact ⟨_, _, rfl, rfl, hc, k _ H w (Same2.refl _ _) (.int _)⟩
    · cases e
  · split at e
    · rename_i hc
      cases e
      cases h1 with
      | lst h1 r1 =>
        cases h2 with
        | lst h2 r2 => exact .inr ⟨_, _, _, _, rfl, rfl, h1.2, h2.2, by rw [r1.length, r2.length]; exact hc, fun p hp => k _ _ _ (Same2.new hp) (Is.newL (r1.append r2) hp)⟩
    · cases e
  · split at e
    · rename_i hc
      cases e
      cases h1 with
      | lst h1 r1 =>
        cases h2
        exact .inr ⟨_, _, _, rfl, rfl, h1.2, hc.1, hc.2.1, by rw [r1.length]; exact hc.2.2, fun p hp => k _ _ _ (Same2.new hp) (Is.newL (r1.repl _) hp)⟩
    · cases e
  · cases e
def rUn (op : UnaryOp) : V → Hp → VK → Prop :=
  match op with
  | .USub => rU fun i => .int (-i)
  | _ => fun _ _ _ => False
theorem opr_un (op : UnaryOp) : UnR X (unaryOp op) (rUn op) := by
  cases op <;> first
    | exact un_neg
    | exact fun _ _ _ _ _ _ _ _ _ h => h.elim
theorem op1_un (op : UnaryOp) : Op1 c (Is c) (unD op) (rUn op) := by
  intro w H x d1 d Q h1 e k
  unfold unD at e
  split at e
  · cases e; cases h1
    exact ⟨_, rfl, k _ H w (Same2.refl _ _) (.int _)⟩
  · cases e
/-! comparisons -/
def rIsB' (neg : Bool) : R2 := fun x y H Q => ∃ b : Bool, y = .bl b ∧ Q (.bl (if neg then !decide (x = .bl b) else decide (x = .bl b))) H
theorem RelV.bool_iff {x : V} {v : Value} {b : Bool} (r : RelV x v) : v = .bool b ↔ x = .bl b := by
  constructor
  · intro h
    subst h
    exact RelV.inj r (show RelV (.bl b) (.bool b) from rfl)
  · intro h
    subst h
    exact r
theorem opr_is : OpR X (compareOp .Is) (rIsB' false) := by
  intro pins s σ H x y v u Q I rx ry h
  obtain ⟨b, rfl, q⟩ := h
  cases (show u = Value.bool b from ry)
  have q : Q (.bl (decide (x = .bl b))) H := q
  by_cases e : v = .bool b
  · subst e
    have e2 := (RelV.bool_iff rx).mp rfl
    exact wpAny_is_self rfl ⟨.bl true, H, I, rfl, by simpa [e2] using q⟩
  · have e2 : x ≠ .bl b := fun z => e ((RelV.bool_iff rx).mpr z)
    refine wpAny_is_other ?_ e ⟨.bl false, H, I, rfl, by simpa [e2] using q⟩
    cases v <;> first | rfl | (cases x <;> simp [L2.RelV] at rx)
theorem opr_isnot : OpR X (compareOp .IsNot) (rIsB' true) := by
  intro pins s σ H x y v u Q I rx ry h
  obtain ⟨b, rfl, q⟩ := h
  cases (show u = Value.bool b from ry)
  have q : Q (.bl (!decide (x = .bl b))) H := q
  by_cases e : v = .bool b
  · subst e
    have e2 := (RelV.bool_iff rx).mp rfl
    exact wpAny_isNot_self rfl ⟨.bl false, H, I, rfl, by simpa [e2] using q⟩
  · have e2 : x ≠ .bl b := fun z => e ((RelV.bool_iff rx).mpr z)
    refine wpAny_isNot_other ?_ e ⟨.bl true, H, I, rfl, by simpa [e2] using q⟩
    cases v <;> first | rfl | (cases x <;> simp [L2.RelV] at rx)
/-- x in a tuple -/
def rInTD (K : PySem.W.Frag) : R2 := fun x y H Q => ∃ d ds, Dp K H x d ∧ Dp K H y (.tuple ds) ∧ SeqAt.shaped d = true ∧ SeqAt.shaped (.tuple ds) = true ∧ Q (.bl (ds.any fun z => PyData.eqv z d)) H
theorem op_inTD (hu : X.A.units + 65 < cLine) : OpR X (compareOp .In) (rInTD X.K) := fun pins s σ H x y v u Q I rx ry ⟨d, ds, hd, he, sd, se, q⟩ => by
  obtain ⟨as, r1⟩ := Dp.reads I d x v hd rx
  obtain ⟨bs, r2⟩ := Dp.reads I (.tuple ds) y u he ry
  have c1 := SeqAt.canLay_of_shaped se
  have c2 := SeqAt.canLay_of_shaped sd
  exact SeqAt.in_tuple_reads r2 r1 c1 c2 (room_in_shaped sd hu) ⟨.bl _, H, I, rfl, q⟩
def rCmp (K : PySem.W.Frag) (op : CmpOp) : R2 :=
  match op with
  | .Eq => rEqD K
  | .NotEq => rNeD K
  | .Lt => rI0 fun i j => .bl (decide (i < j))
  | .LtE => rI0 fun i j => .bl (decide (i ≤ j))
  | .Gt => rI0 fun i j => .bl (decide (j < i))
  | .GtE => rI0 fun i j => .bl (decide (j ≤ i))
  | .Is => fun x y H Q => (y = .non ∧ Q (.bl (decide (x = .non))) H) ∨ rIsB' false x y H Q
  | .IsNot => fun x y H Q => (y = .non ∧ Q (.bl (!decide (x = .non))) H) ∨ rIsB' true x y H Q
  | .In => fun x y H Q => rInD K x y H Q ∨ rInTD K x y H Q
  | .NotIn => rNotInD K
theorem opr_cmp (hu : X.A.units + 65 < cLine) (op : CmpOp) : OpR X (compareOp op) (rCmp X.K op) := by
  cases op with
  | Eq => exact op_eqD (by omega)
  | NotEq => exact op_neD (by omega)
  | Lt => exact op_lt
  | LtE => exact op_le
  | Gt => exact op_gt
  | GtE => exact op_ge
  | Is => exact OpR.or op_isN opr_is
  | IsNot => exact OpR.or op_notN opr_isnot
  | In => exact OpR.or (op_inD hu) (op_inTD hu)
  | NotIn => exact op_notInD hu
/-- what data is None, or a bool -/
theorem Is.non_iff {w : Wm} {H : Hp} {v : V} {d : D} (h : Is c w H v d) : v = .non ↔ d = .non := by
  cases h <;> simp
theorem Is.bl_iff {w : Wm} {H : Hp} {v : V} {d : D} {b : Bool} (h : Is c w H v d) : v = .bl b ↔ d = .bl b := by
  cases h <;> simp
theorem shaped2 {a b : D} {r : Bool} (h : eqD a b = some r) : SeqAt.shaped a.py = true ∧ SeqAt.shaped b.py = true ∧ r = PyData.eqv a.py b.py := by
  unfold eqD at h
  split at h
  · rename_i z
    rw [Bool.and_eq_true] at z
    cases h
    exact ⟨z.1, z.2, rfl⟩
  · cases h
theorem any_pys (f : PyData → Bool) : ∀ xs : List D, (D.pys xs).any f = xs.any fun z => f z.py
  | [] => by rw [D.pys]; rfl
  | x :: xs => by rw [D.pys, List.any_cons, List.any_cons, any_pys f xs]
theorem shapedIn {a : D} {xs : List D} {r : Bool} (h : inD a xs = some r) : SeqAt.shaped a.py = true ∧ SeqAt.shaped (.list (D.pys xs)) = true ∧ r = (D.pys xs).any fun z => PyData.eqv z a.py := by
  unfold inD at h
  split at h
  · rename_i z
    rw [Bool.and_eq_true, D.py] at z
    cases h
    exact ⟨z.1, z.2, by rw [any_pys]⟩
  · cases h
theorem shapedInT {a : D} {xs : List D} {r : Bool} (h : inTD a xs = some r) : SeqAt.shaped a.py = true ∧ SeqAt.shaped (.tuple (D.pys xs)) = true ∧ r = (D.pys xs).any fun z => PyData.eqv z a.py := by
  unfold inTD at h
  split at h
  · rename_i z
    rw [Bool.and_eq_true, D.py] at z
    cases h
    exact ⟨z.1, z.2, by rw [any_pys]⟩
  · cases h
theorem cmpI_some {f : Int → Int → Bool} {a b d : D} (h : cmpI f a b = some d) : ∃ i j, a = .int i ∧ b = .int j ∧ d = .bl (f i j) := by
  unfold cmpI at h
  split at h
  · cases h; exact ⟨_, _, rfl, rfl, rfl⟩
  · cases h
theorem isD_some {a b : D} {r : Bool} (h : isD a b = some r) : (b = .non ∧ (r = true ↔ a = .non)) ∨ ∃ x, b = .bl x ∧ (r = true ↔ a = .bl x) := by
  unfold isD at h
  split at h <;> cases h
  · exact .inl ⟨rfl, by simp⟩
  · rename_i z
    exact .inl ⟨rfl, by simpa using z⟩
  · exact .inr ⟨_, rfl, by simp⟩
  · exact .inr ⟨_, rfl, by simp⟩
  · exact .inr ⟨_, rfl, by simp⟩
  · exact .inr ⟨_, rfl, by simp⟩
theorem dec_of {p : Prop} [Decidable p] {r : Bool} (h : r = true ↔ p) : decide p = r := by
  cases r with
  | true => exact decide_eq_true (h.mp rfl)
  | false => exact decide_eq_false fun q => by have := h.mpr q; cases this
theorem op2_cmp {P1 P2 : Wm → Hp → V → D → Prop} (hP1 : ∀ {w H v d}, P1 w H v d → Is c noW H v d) (hP2 : ∀ {w H v d}, P2 w H v d → Is c noW H v d) (op : CmpOp) : Op2 c P1 P2 (cmpD op) (rCmp c.K op) := by
  intro w H x y d1 d2 d Q h1 h2 e k
  have h1 := hP1 h1
  have h2 := hP2 h2
  have kk : ∀ b, d = .bl b → Q (.bl b) H := fun b z => by subst z; exact k _ H w (Same2.refl _ _) (.bl b)
  cases op <;> simp only [cmpD, Option.map_eq_some_iff] at e
  · obtain ⟨r, e1, rfl⟩ := e
    obtain ⟨z1, z2, rfl⟩ := shaped2 e1
    exact ⟨_, _, h1.shaped z1, h2.shaped z2, z1, z2, kk _ rfl⟩
  · obtain ⟨r, e1, rfl⟩ := e
    obtain ⟨z1, z2, rfl⟩ := shaped2 e1
    exact ⟨_, _, h1.shaped z1, h2.shaped z2, z1, z2, kk _ rfl⟩
  · obtain ⟨i, j, rfl, rfl, rfl⟩ := cmpI_some e
    cases h1; cases h2
    exact ⟨_, _, rfl, rfl, kk _ rfl⟩
  · obtain ⟨i, j, rfl, rfl, rfl⟩ := cmpI_some e
    cases h1; cases h2
    exact ⟨_, _, rfl, rfl, kk _ rfl⟩
  · obtain ⟨i, j, rfl, rfl, rfl⟩ := cmpI_some e
    cases h1; cases h2
    exact ⟨_, _, rfl, rfl, kk _ rfl⟩
  · obtain ⟨i, j, rfl, rfl, rfl⟩ := cmpI_some e
    cases h1; cases h2
    exact ⟨_, _, rfl, rfl, kk _ rfl⟩
  · obtain ⟨r, e1, rfl⟩ := e
    rcases isD_some e1 with ⟨rfl, z⟩ | ⟨b, rfl, z⟩
    · cases h2
      refine .inl ⟨rfl, ?_⟩
      rw [dec_of (z.trans h1.non_iff.symm)]
      exact kk _ rfl
    · cases h2
      refine .inr ⟨b, rfl, ?_⟩
      rw [if_neg (by decide), dec_of (z.trans h1.bl_iff.symm)]
      exact kk _ rfl
  · obtain ⟨r, e1, rfl⟩ := e
    rcases isD_some e1 with ⟨rfl, z⟩ | ⟨b, rfl, z⟩
    · cases h2
      refine .inl ⟨rfl, ?_⟩
      rw [dec_of (z.trans h1.non_iff.symm)]
      exact kk _ rfl
    · cases h2
      refine .inr ⟨b, rfl, ?_⟩
      rw [if_pos rfl, dec_of (z.trans h1.bl_iff.symm)]
      exact kk _ rfl
  · split at e
    · rename_i xs
      simp only [Option.map_eq_some_iff] at e
      obtain ⟨r, e1, rfl⟩ := e
      obtain ⟨z1, z2, rfl⟩ := shapedIn e1
      have q := h2.shaped (by rw [D.py]; exact z2)
      rw [D.py] at q
      exact .inl ⟨_, _, h1.shaped z1, q, z1, z2, kk _ rfl⟩
    · rename_i xs
      simp only [Option.map_eq_some_iff] at e
      obtain ⟨r, e1, rfl⟩ := e
      obtain ⟨z1, z2, rfl⟩ := shapedInT e1
      have q := h2.shaped (by rw [D.py]; exact z2)
      rw [D.py] at q
      exact .inr ⟨_, _, h1.shaped z1, q, z1, z2, kk _ rfl⟩
    · cases e
  · split at e
    · rename_i xs
      simp only [Option.map_eq_some_iff] at e
      obtain ⟨r, e1, rfl⟩ := e
      obtain ⟨z1, z2, rfl⟩ := shapedIn e1
      have q := h2.shaped (by rw [D.py]; exact z2)
      rw [D.py] at q
      exact ⟨_, _, h1.shaped z1, q, z1, z2, kk _ rfl⟩
    · cases e
end
end Dm

/-! The D machine: items, fields, built-ins, isinstance. -/
namespace Dm
open PySem L2 PyProof.Rows

/-! ### forms that the mini syntax never has -/
theorem E.star (e : E) (es : List Expr) (env : PySem.Env) : starEach (e.py :: es) env = (false, eval e.py env) :: starEach es env := by
  cases e <;> (rw [E.py]; rfl)
theorem E.plainIx (e : E) : PlainIx e.py := by
  cases e <;> (rw [E.py]; exact fun _ _ => rfl)
theorem E.nomark (e : E) (op : CmpOp) : behindInMarks op e.py = false := by
  cases e <;> (rw [E.py]; rfl)
theorem E.nofold (e : E) (env : PySem.Env) (x : Value) : foldedSetIterable e.py env x = pure x := by
  cases e <;> (rw [E.py]; rfl)
theorem noStar_nil {pos : Pos} {env : PySem.Env} : (backTo pos (starEach [] env)).any (·.1) = false := rfl
theorem noStar_cons {pos : Pos} {env : PySem.Env} {e : E} {es : List Expr} (h : (backTo pos (starEach es env)).any (·.1) = false) : (backTo pos (starEach (e.py :: es) env)).any (·.1) = false := by
  rw [E.star]
  simpa [backTo] using h
theorem Es.noStar {pos : Pos} {env : PySem.Env} : ∀ es : Es, (backTo pos (starEach es.py env)).any (·.1) = false
  | .nil => by rw [Es.py]; rfl
  | .cons e es => by rw [Es.py]; exact noStar_cons (Es.noStar es)
theorem star_name {x : Str} {p : Pos} (es : List Expr) (env : PySem.Env) : starEach (.Name x p :: es) env = (false, eval (.Name x p) env) :: starEach es env := rfl

section
variable {X : Cx} {c : Cc} {e : Expr} {es : List Expr}
/-! ### items -/
theorem atI_get {α : Type} {xs : List α} {i : Int} {v : α} (h : atI xs i = some v) : ∃ j, ixN xs.length i = some j ∧ xs[j]? = some v := by
  unfold atI at h
  obtain ⟨j, e1, e2⟩ := Option.bind_eq_some_iff.mp h
  exact ⟨j, e1, e2⟩
theorem IsAll.at {w : Wm} {H : Hp} {vs : List V} {ds : List D} (r : IsAll c w H vs ds) {i : Int} {d : D} (h : atI ds i = some d) : ∃ v, atI vs i = some v ∧ Is c w H v d := by
  obtain ⟨j, e1, e2⟩ := atI_get h
  obtain ⟨v, e3, q⟩ := r.get e2
  exact ⟨v, by unfold atI; rw [r.length, e1]; exact e3, q⟩
theorem op2_ix : Op2 c (Is c) (Is c) ixD (rIx c.K) := by
  intro w H x y d1 d2 d Q h1 h2 e k
  unfold ixD at e
  split at e
  · cases h2
    cases h1 with
    | lst h1 r =>
      obtain ⟨v, e1, q⟩ := r.at e
      exact .inl ⟨_, _, _, _, rfl, rfl, h1.sq, e1, k _ H w (Same2.refl _ _) q⟩
  · cases h2
    cases h1 with
    | tup h1 r =>
      obtain ⟨v, e1, q⟩ := r.at e
      exact .inr (.inl ⟨_, _, _, _, rfl, rfl, h1.sq, e1, k _ H w (Same2.refl _ _) q⟩)
  · cases h2
    cases h1 with
    | scr h1 =>
      obtain ⟨z, e1, rfl⟩ := Option.map_eq_some_iff.mp e
      obtain ⟨j, e2, e3⟩ := atI_get e1
      exact .inl ⟨_, _, _, .int z, rfl, rfl, h1.sq, by unfold atI; rw [List.length_map, e2]; simp [e3], k _ H w (Same2.refl _ _) (.int _)⟩
  · cases e
theorem d_subB {j : Nat} {m : M D} (h : PE X e (tOp (rIx c.K) (tVar j) (tE c m))) : PE X e (tE c (subB j m)) := pimp h fun σ H Q ⟨w, rs, s, d, s', R, e, k⟩ => by
  obtain ⟨d0, s0, e0, e5⟩ := bnd_some.mp e
  obtain ⟨d2, s2, e2, e6⟩ := bnd_some.mp e5
  obtain ⟨rfl, v, o, kk, hv, _, _, _⟩ := R.peekV e0
  refine ⟨v, hv, w, rs, s0, d2, s2, R, e2, fun v2 H2 w2 R2 q2 st2 => ?_⟩
  split at e6
  · rename_i dl ep
    obtain ⟨v', kk', hv', q1⟩ := R2.peek ep
    rw [hv] at hv'; cases hv'
    obtain ⟨z, ez, ez'⟩ := ofO_some.mp e6
    injection ez' with z1 z2; subst z1 z2
    cases q1 with
    | leaf q1 =>
      refine op2_ix w2 H2 v v2 _ d2 _ Q q1 q2 ez fun v H' w' hx q => ?_
      have st3 : Step w2 H2 w' H' := fun a o e _ => hx a o e
      exact k v H' w' (R2.ext hx) q (st2.trans st3)
  · rename_i ds ep
    obtain ⟨v', kk', hv', q1⟩ := R2.peek ep
    rw [hv] at hv'; cases hv'
    obtain ⟨z, ez, ez'⟩ := ofO_some.mp e6
    injection ez' with z1 z2; subst z1 z2
    cases q1 with
    | fl h1 h2 r =>
      cases q2 <;> simp only [ixD] at ez <;> try cases ez
      obtain ⟨v3, e11, q3⟩ := r.at ez
      exact .inl ⟨_, _, _, _, rfl, rfl, .of h2, e11, k _ H2 w2 R2 q3 st2⟩
  · cases e6

/-! ### fields -/
theorem lookup_zip : ∀ {ns : List Str} {vs : List V} {j : Nat} {f : Str} {v : V}, ns.Nodup → ns[j]? = some f → vs[j]? = some v → (ns.zip vs).lookup f = some v
  | [], _, _, _, _, _, h, _ => by simp at h
  | _ :: _, [], _, _, _, _, _, h => by simp at h
  | n :: ns, u :: vs, 0, f, v, _, h1, h2 => by
    simp at h1 h2
    subst h1 h2
    simp [List.zip_cons_cons, List.lookup_cons]
  | n :: ns, u :: vs, j + 1, f, v, nd, h1, h2 => by
    simp only [List.getElem?_cons_succ] at h1 h2
    rw [List.nodup_cons] at nd
    have ne : f ≠ n := fun z => nd.1 (z ▸ List.mem_of_getElem? h1)
    rw [List.zip_cons_cons, List.lookup_cons]
    have : (f == n) = false := by simpa using ne
    rw [this]
    exact lookup_zip nd.2 h1 h2
/-- what is known of a class -/
structure ClsOk (c : Cc) (k : Nat) : Prop where
  cls : Cls c.K (c.cl k)
  nd : (c.fn k).Nodup
  no : ∀ f ∈ c.fn k, NoAttr c.K (c.cl k) f
theorem att_ok {fn : Nat → List Str} (hf : c.fn = fn) (hc : ∀ q, fn q ≠ [] → ClsOk c q) {w : Wm} {H : Hp} {kk : List Nat → Ow} {v : V} {o : OD} {k : Nat} {f : Str} {d : D} {Q : VK} (h : IsO c w H kk v o) (e : attO fn k f o = some d)
    (q : ∀ u, Is c w H u d → Q u H) : ∃ a C dx fs u, v = .ref a ∧ H a = some (.ins C dx fs) ∧ Cls c.K C ∧ NoAttr c.K C f ∧ fs.lookup f = some u ∧ Q u H := by
  subst hf
  have main : ∀ {a dx : Addr} {vs : List V} {ds : List D} {n : Nat}, H a = some (.ins (c.cl n) dx ((c.fn n).zip vs)) → IsAll c w H vs ds → v = .ref a → (if (c.fn n)[k]? = some f then ds[k]? else none) = some d →
      ∃ a C dx fs u, v = .ref a ∧ H a = some (.ins C dx fs) ∧ Cls c.K C ∧ NoAttr c.K C f ∧ fs.lookup f = some u ∧ Q u H := by
    intro a dx vs ds n h1 r hv e
    split at e
    · rename_i hn
      have ne : c.fn n ≠ [] := fun z => by rw [z] at hn; simp at hn
      obtain ⟨u, e1, z⟩ := r.get e
      exact ⟨a, _, dx, _, u, hv, h1, (hc n ne).cls, (hc n ne).no f (List.mem_of_getElem? hn), lookup_zip (hc n ne).nd hn e1, q u z⟩
    · cases e
  cases h with
  | leaf h =>
    cases h <;> simp only [attO] at e <;> try cases e
    rename_i h1 h2 h3 r
    exact main h2 r rfl e
  | fl => simp only [attO] at e; cases e
  | ll => simp only [attO] at e; cases e
  | nl => simp only [attO] at e; cases e
  | nt => simp only [attO] at e; cases e
  | oobj h1 h2 h3 r => exact main h2 r rfl e
theorem d_att {fn : Nat → List Str} (hf : c.fn = fn) (hc : ∀ q, fn q ≠ [] → ClsOk c q) {m : M D} {k : Nat} {f : Str} (h : PE X e (tFld c.K (tE c m) f)) : PE X e (tE c (bnd m fun x => ofO (attO fn k f (.leaf x)))) := pimp h fun σ H Q ⟨w, rs, s, d, s', R, e, kq⟩ => by
  obtain ⟨d1, s1, e1, e5⟩ := bnd_some.mp e
  obtain ⟨z, ez, ez'⟩ := ofO_some.mp e5
  injection ez' with z1 z2; subst z1 z2
  exact ⟨w, rs, s, d1, _, R, e1, fun v1 H1 w1 R1 q1 st1 => att_ok (kk := sow 0) hf hc (.leaf q1) ez fun u q => kq u H1 w1 R1 q st1⟩
theorem d_attB {fn : Nat → List Str} (hf : c.fn = fn) (hc : ∀ q, fn q ≠ [] → ClsOk c q) {j k : Nat} {f : Str} (h : PE X e (tFld c.K (tVar j) f)) : PE X e (tE c (fun s => match peekO s j with
      | some o => ofO (attO fn k f o) s
      | none => none)) := pimp h fun σ H Q ⟨w, rs, s, d, s', R, e, kq⟩ => by
  simp only at e
  split at e
  · rename_i o eo
    obtain ⟨z, ez, ez'⟩ := ofO_some.mp e
    injection ez' with z1 z2; subst z1 z2
    obtain ⟨v, kk, hv, q⟩ := R.peek eo
    exact ⟨v, hv, att_ok hf hc q ez fun u q => kq u H w R q (Step.refl _ _)⟩
  · cases e

/-! ### built-ins -/
theorem d_cb1 {P1 : Wm → Hp → V → D → Prop} {m : M D} {f : D → Option D} {r : List V → Hp → VK → Prop} (h : PE X e (tCB r (tCons (tM c P1 m) tNil))) (hr : Op1 c P1 f (fun x H Q => r [x] H Q)) :
    PE X e (tE c (bnd m fun x => ofO (f x))) := d_one (r := fun x H Q => r [x] H Q) (pimp h fun _ _ _ q => q) hr
theorem d_cb2 {m m' : M D} {f : D → D → Option D} {r : List V → Hp → VK → Prop} (h : PE X e (tCB r (tCons (tE c m) (tCons (tE c m') tNil)))) (hr : Op2 c (Is c) (Is c) f (fun x y H Q => r [x, y] H Q)) :
    PE X e (tE c (bnd m fun x => bnd m' fun y => ofO (f x y))) := d_two (r := fun x y H Q => r [x, y] H Q) (pimp h fun _ _ _ q => q) hr
theorem allBl_some : ∀ {ds : List D} {bs : List Bool}, allBl ds = some bs → ds = bs.map D.bl
  | [], bs, h => by simp [allBl] at h; subst h; rfl
  | .bl b :: r, bs, h => by
    simp only [allBl, Option.map_eq_some_iff] at h
    obtain ⟨x, e, rfl⟩ := h
    rw [allBl_some e]; rfl
  | .non :: _, _, h | .int _ :: _, _, h | .str _ :: _, _, h | .tup _ :: _, _, h | .lst _ :: _, _, h | .obj _ _ :: _, _, h | .scr _ :: _, _, h => by simp [allBl] at h
theorem allI_some : ∀ {ds : List D} {bs : List Int}, allI ds = some bs → ds = bs.map D.int
  | [], bs, h => by simp [allI] at h; subst h; rfl
  | .int b :: r, bs, h => by
    simp only [allI, Option.map_eq_some_iff] at h
    obtain ⟨x, e, rfl⟩ := h
    rw [allI_some e]; rfl
  | .non :: _, _, h | .bl _ :: _, _, h | .str _ :: _, _, h | .tup _ :: _, _, h | .lst _ :: _, _, h | .obj _ _ :: _, _, h | .scr _ :: _, _, h => by simp [allI] at h
theorem IsAll.bls {w : Wm} {H : Hp} : ∀ {vs : List V} {bs : List Bool}, IsAll c w H vs (bs.map D.bl) → vs = bs.map V.bl
  | _, [], h => by cases h; rfl
  | _, b :: bs, h => by
    cases h with
    | cons h r => cases h; rw [IsAll.bls r]; rfl
theorem IsAll.ints {w : Wm} {H : Hp} : ∀ {vs : List V} {bs : List Int}, IsAll c w H vs (bs.map D.int) → vs = bs.map V.int
  | _, [], h => by cases h; rfl
  | _, b :: bs, h => by
    cases h with
    | cons h r => cases h; rw [IsAll.ints r]; rfl
theorem maxI_ge : ∀ {ns : List Int} {x : Int}, x ∈ ns → x ≤ maxI ns
  | [], _, h => by simp at h
  | [a], x, h => by simp at h; subst h; exact Int.le_refl _
  | a :: b :: r, x, h => by
    rw [maxI]
    rcases List.mem_cons.mp h with e | h
    · subst e; omega
    · have := maxI_ge h; omega
    · intro z; cases z
theorem maxI_mem : ∀ {ns : List Int}, ns ≠ [] → maxI ns ∈ ns
  | [], h => absurd rfl h
  | [a], _ => by simp [maxI]
  | a :: b :: r, _ => by
    have e : maxI (a :: b :: r) = max a (maxI (b :: r)) := by
      rw [maxI]
      intro z; cases z
    rw [e]
    have := maxI_mem (ns := b :: r) (by simp)
    rcases Int.le_total a (maxI (b :: r)) with h | h
    · rw [Int.max_eq_right h]; exact List.mem_cons_of_mem _ this
    · rw [Int.max_eq_left h]; exact List.mem_cons_self
def rB1 (K : PySem.W.Frag) (b : Bi) : List V → Hp → VK → Prop :=
  match b with
  | .len => fun xs H Q => ∃ x n, xs = [x] ∧ LenV K x H n ∧ Q (.int n) H
  | .abs => fun xs H Q => ∃ i, xs = [.int i] ∧ Q (.int (if i < 0 then -i else i)) H
  | .int => fun xs H Q => (∃ i, xs = [.int i] ∧ Q (.int i) H) ∨ ∃ k, xs = [.bl k] ∧ Q (.int (if k then 1 else 0)) H
  | .all => rAll K
  | .any => rAny K
  | .sum => rSum K
  | .maxL => rMax K
  | .tuple => fun xs H Q => ∃ p ys, xs = [.ref p] ∧ ((SqL K H p ys ∧ ∀ l, H l = none → Q (.ref l) (upd H l (.tup ys))) ∨ (SqT K H p ys ∧ Q (.ref p) H))
  | .list => fun xs H Q => ∃ p ys, xs = [.ref p] ∧ (SqL K H p ys ∨ SqT K H p ys) ∧ ∀ l, H l = none → Q (.ref l) (upd H l (.lst ys))
  | _ => fun _ _ _ => False
theorem op1_b1 (b : Bi) : Op1 c (Rd0 c) (bi1D b) (fun x H Q => rB1 c.K b [x] H Q) := by
  intro w H x d1 d Q h1 e k
  have kk : ∀ v, d = v → Is c w H (match v with | .int i => .int i | .bl b => .bl b | _ => .non) v → Q (match v with | .int i => .int i | .bl b => .bl b | _ => .non) H := fun v z q => by subst z; exact k _ H w (Same2.refl _ _) q
  unfold bi1D at e
  split at e
  · cases e
    cases h1 with
    | lst h r => exact ⟨_, _, rfl, .inl ⟨_, h.sq, by rw [r.length]⟩, kk _ rfl (.int _)⟩
  · cases e
    cases h1 with
    | tup h r => exact ⟨_, _, rfl, .inr ⟨_, h.sq, by rw [r.length]⟩, kk _ rfl (.int _)⟩
  · cases e
    cases h1 with
    | scr h => exact ⟨_, _, rfl, .inl ⟨_, h.sq, by rw [List.length_map]⟩, kk _ rfl (.int _)⟩
  · cases e; cases h1
    exact ⟨_, rfl, kk _ rfl (.int _)⟩
  · cases e; cases h1
    exact .inl ⟨_, rfl, kk _ rfl (.int _)⟩
  · cases e; cases h1
    exact .inr ⟨_, rfl, kk _ rfl (.int _)⟩
  · obtain ⟨bs, e1, rfl⟩ := Option.map_eq_some_iff.mp e
    have e2 := allBl_some e1
    subst e2
    cases h1 with
    | lst h r =>
      have := r.bls
      subst this
      exact ⟨_, _, rfl, h.sq, kk _ rfl (.bl _)⟩
  · obtain ⟨bs, e1, rfl⟩ := Option.map_eq_some_iff.mp e
    have e2 := allBl_some e1
    subst e2
    cases h1 with
    | lst h r =>
      have := r.bls
      subst this
      exact ⟨_, _, rfl, h.sq, kk _ rfl (.bl _)⟩
  · obtain ⟨bs, e1, rfl⟩ := Option.map_eq_some_iff.mp e
    have e2 := allI_some e1
    subst e2
    cases h1 with
    | lst h r =>
      have := r.ints
      subst this
      exact ⟨_, _, rfl, h.sq, kk _ rfl (.int _)⟩
  · obtain ⟨bs, e1, rfl⟩ := Option.map_eq_some_iff.mp e
    have e2 := allI_some e1
    cases h1 with
    | lst h r =>
      rw [e2] at r
      have := r.ints
      subst this
      have ne : bs ≠ [] := fun z => by subst z; simp at e2
      refine ⟨_, _, rfl, h.sq, List.length_pos_iff.mpr ne, fun m hm hy => ?_⟩
      have : m = maxI bs := Int.le_antisymm (maxI_ge hm) (hy _ (maxI_mem ne))
      subst this
      exact kk _ rfl (.int _)
  · cases e
theorem op1_conv (b : Bi) : Op1 c (Is c) (convD b) (fun x H Q => rB1 c.K b [x] H Q) := by
  intro w H x d1 d Q h1 e k
  unfold convD at e
  split at e <;> cases e
  · cases h1 with
    | lst h r => exact ⟨_, _, rfl, .inl ⟨h.sq, fun p hp => k _ _ _ (Same2.new hp) (Is.newT r hp)⟩⟩
  · cases h1 with
    | tup h r => exact ⟨_, _, rfl, .inr ⟨h.sq, k _ H w (Same2.refl _ _) (.tup h r)⟩⟩
  · cases h1 with
    | lst h r => exact ⟨_, _, rfl, .inl h.sq, fun p hp => k _ _ _ (Same2.new hp) (Is.newL r hp)⟩
  · cases h1 with
    | tup h r => exact ⟨_, _, rfl, .inr h.sq, fun p hp => k _ _ _ (Same2.new hp) (Is.newL r hp)⟩
def rB2 (b : Bi) : List V → Hp → VK → Prop :=
  match b with
  | .max2 => fun xs H Q => ∃ i j, xs = [.int i, .int j] ∧ Q (.int (if j > i then j else i)) H
  | .min2 => fun xs H Q => ∃ i j, xs = [.int i, .int j] ∧ Q (.int (if j < i then j else i)) H
  | .divmod => fun xs H Q => ∃ i j, xs = [.int i, .int j] ∧ CDiv i j ∧ ∀ p, H p = none → Q (.ref p) (upd H p (.tup [.int (i / j), .int (i % j)]))
  | _ => fun _ _ _ => False
theorem op2_b2 (b : Bi) : Op2 c (Is c) (Is c) (bi2D b) (fun x y H Q => rB2 b [x, y] H Q) := by
  intro w H x y d1 d2 d Q h1 h2 e k
  unfold bi2D at e
  split at e
  · cases e; cases h1; cases h2
    exact ⟨_, _, rfl, k _ H w (Same2.refl _ _) (.int _)⟩
  · cases e; cases h1; cases h2
    exact ⟨_, _, rfl, k _ H w (Same2.refl _ _) (.int _)⟩
  · split at e
    · rename_i hc
      cases e; cases h1; cases h2
      exact ⟨_, _, rfl, hc, fun p hp => k _ _ _ (Same2.new hp) (Is.newT (.cons (.int _) (.cons (.int _) .nil)) hp)⟩
    · cases e
  · cases e
theorem pe_b1 (hc : X.calm = true) (hK : X.K = c.K) {b : Bi} {p q : Pos} {a : E} {t : TE} (hb : b ≠ .max2 ∧ b ≠ .min2 ∧ b ≠ .divmod) (hg : Gl X b.nm) (hm : X.mg b.nm = none) (ha : PE X a.py t) : PE X (.Call (.Name b.nm p) [a.py] [] q) (tCB (rB1 c.K b) (tCons t tNil)) := by
  have pa : PA X [a.py] (tCons t tNil) := pa_cons ha pa_nil (a.star _ _)
  rw [← hK]
  cases b with
  | len => exact pe_callB call_len hg hm (by decide +kernel) pa (he := a.star _ _)
  | abs => exact pe_callB call_abs hg hm (by decide +kernel) pa (he := a.star _ _)
  | int => exact pe_callTy call_int1 hg hm (by decide +kernel) pa (he := a.star _ _)
  | all => exact pe_callB (cr_all hc) hg hm (by decide +kernel) pa (he := a.star _ _)
  | any => exact pe_callB (cr_any hc) hg hm (by decide +kernel) pa (he := a.star _ _)
  | sum => exact pe_callB (cr_sum hc) hg hm (by decide +kernel) pa (he := a.star _ _)
  | maxL => exact pe_callB (cr_max hc) hg hm (by decide +kernel) pa (he := a.star _ _)
  | tuple => exact pe_callTy call_tuple_of hg hm (by decide +kernel) pa (he := a.star _ _)
  | list => exact pe_callTy call_list_of hg hm (by decide +kernel) pa (he := a.star _ _)
  | max2 => exact absurd rfl hb.1
  | min2 => exact absurd rfl hb.2.1
  | divmod => exact absurd rfl hb.2.2
theorem pe_b2 (hc : X.calm = true) {b : Bi} {p q : Pos} {a a' : E} {t t' : TE} (hb : b = .max2 ∨ b = .min2 ∨ b = .divmod) (hg : Gl X b.nm) (hm : X.mg b.nm = none) (ha : PE X a.py t) (ha' : PE X a'.py t') : PE X (.Call (.Name b.nm p) [a.py, a'.py] [] q) (tCB (rB2 b) (tCons t (tCons t' tNil))) := by
  have pa : PA X [a.py, a'.py] (tCons t (tCons t' tNil)) := pa_cons ha (pa_cons ha' pa_nil (a'.star _ _)) (a.star _ _)
  rcases hb with rfl | rfl | rfl
  · exact pe_callB (call_max2 hc) hg hm (by decide +kernel) pa (he := a.star _ _) (hpl := noStar_cons noStar_nil)
  · exact pe_callB (call_min2 hc) hg hm (by decide +kernel) pa (he := a.star _ _) (hpl := noStar_cons noStar_nil)
  · exact pe_callB call_divmod hg hm (by decide +kernel) pa (he := a.star _ _) (hpl := noStar_cons noStar_nil)
/-! ### isinstance -/
def Ty.name : Ty → String
  | .int => "int" | .bool => "bool" | .str => "str" | .list => "list" | .tuple => "tuple"
theorem op1_isi (t : Ty) : Op1 c (Rd0 c) (fun d => (isiD d t).map .bl) (fun x H Q => rIsi c.K [x, .ty t.name] H Q) := by
  intro w H x d1 d Q h1 e k
  obtain ⟨b, e1, rfl⟩ := Option.map_eq_some_iff.mp e
  have main : ∀ {n : String}, TyOf c.K H x (.type n) → kitB n t.name = some b → rIsi c.K [x, .ty t.name] H Q := fun {n} h1 h2 =>
    ⟨x, .ty t.name, .type n, .type t.name, b, rfl, .ty _, .base h1, kit_ty h2, k _ H w (Same2.refl _ _) (.bl b)⟩
  cases h1 with
  | non => refine main .non ?_; cases t <;> simp only [isiD] at e1 <;> cases e1 <;> decide +kernel
  | bl z => refine main (.bl z) ?_; cases t <;> simp only [isiD] at e1 <;> cases e1 <;> decide +kernel
  | int z => refine main (.int z) ?_; cases t <;> simp only [isiD] at e1 <;> cases e1 <;> decide +kernel
  | str z => refine main (.str z) ?_; cases t <;> simp only [isiD] at e1 <;> cases e1 <;> decide +kernel
  | lst h r => refine main (.lst h.2) ?_; cases t <;> simp only [isiD] at e1 <;> cases e1 <;> decide +kernel
  | tup h r => refine main (.tup h.2) ?_; cases t <;> simp only [isiD] at e1 <;> cases e1 <;> decide +kernel
  | obj => simp only [isiD] at e1; cases e1
  | scr => simp only [isiD] at e1; cases e1
theorem d_isi {m : M D} {t : Ty} (h : PE X e (tCB (rIsi c.K) (tCons (tR c m) (tCons (tC (.ty t.name)) tNil)))) : PE X e (tE c (bnd m fun x => ofO ((isiD x t).map .bl))) :=
  d_one (f := fun d => (isiD d t).map .bl) (r := fun x H Q => rIsi c.K [x, .ty t.name] H Q) (pimp h fun _ _ _ q => q) (op1_isi t)
theorem pe_isi (hK : X.K = c.K) {t : Ty} {a : E} {p1 p2 p3 : Pos} {ta : TE} (hg : Gl X "isinstance") (hm : X.mg "isinstance" = none) (hg2 : Gl X t.nm) (hm2 : X.mg t.nm = none) (ha : PE X a.py ta) :
    PE X (.Call (.Name "isinstance" p1) [a.py, .Name t.nm p2] [] p3) (tCB (rIsi c.K) (tCons ta (tCons (tC (.ty t.name)) tNil))) := by
  rw [← hK]
  refine pe_callB call_isi hg hm (by decide +kernel) (pa_cons ha (pa_cons (pe_bltn hg2 hm2 (u := .type t.name) ?_ rfl ?_ ?_) pa_nil) (a.star _ _)) (he := a.star _ _)
  all_goals cases t <;> decide +kernel
end
end Dm

/-! The D machine: targets, what is walked, comprehensions, calls. -/
namespace Dm
open PySem L2 PyProof.Rows

/-! ### targets -/
def Tgs.len : Tgs → Nat
  | .nil => 0
  | .cons _ ts => ts.len + 1
/-- but for these slots -/
def AgreeBut (ids : List Nat) (σ σ' : L2.St) : Prop := σ'.length = σ.length ∧ ∀ i, i ∉ ids → σ'[i]? = σ[i]?
theorem AgreeBut.refl (ids : List Nat) (σ : L2.St) : AgreeBut ids σ σ := ⟨rfl, fun _ _ => rfl⟩
theorem AgreeBut.trans {a b : List Nat} {σ σ1 σ2 : L2.St} (h : AgreeBut a σ σ1) (k : AgreeBut b σ1 σ2) : AgreeBut (a ++ b) σ σ2 :=
  ⟨k.1.trans h.1, fun i hi => by rw [List.mem_append, not_or] at hi; exact (k.2 i hi.2).trans (h.2 i hi.1)⟩
def tG (c : Cc) (t : Tg) : TG := fun v σ H Q => ∃ w rs s d s', Rel c w rs s σ H ∧ Is c w H v d ∧ setT t d s = some ((), s') ∧ ∀ σ', Rel c w rs s' σ' H → AgreeBut t.ids σ σ' → Q σ' H
def tGs (c : Cc) (t : Tgs) : TGs := fun vs σ H Q => ∃ w rs s ds s', Rel c w rs s σ H ∧ IsAll c w H vs ds ∧ setTs t ds s = some ((), s') ∧ ∀ σ', Rel c w rs s' σ' H → AgreeBut t.ids σ σ' → Q σ' H
section
variable {X : Cx} {c : Cc} {e : Expr} {es : List Expr} {w : Wm} {rs : List V} {s : St} {σ : L2.St} {H : Hp}
theorem Rel.set (R : Rel c w rs s σ H) {i : Nat} {v : V} {d : D} (q : Is c w H v d) : Rel c w rs { s with L := s.L.set i (.val d) } (σ.set i (some v)) H := by
  refine ⟨by simpa using R.len, fun j y x e1 e2 => ?_, R.st⟩
  by_cases hj : j = i
  · subst hj
    by_cases hl : j < s.L.length
    · simp only [List.getElem?_set_self hl] at e1
      rw [List.getElem?_set_self (by rw [← R.len]; exact hl)] at e2
      cases e1; cases e2
      exact ⟨v, rfl, q⟩
    · simp only [List.getElem?_eq_none (show (s.L.set j (.val d)).length ≤ j by simpa using hl)] at e1
      cases e1
  · simp only [List.getElem?_set_ne (Ne.symm hj)] at e1
    rw [List.getElem?_set_ne (Ne.symm hj)] at e2
    exact R.sl j y x e1 e2
theorem Tg.eachCons (t : Tg) (es : List Expr) (env : PySem.Env) : assignEach (t.py :: es) env = (false, assign t.py env) :: assignEach es env := by
  cases t <;> (rw [Tg.py]; rfl)
theorem Tgs.each (env : PySem.Env) : ∀ ts : Tgs, (assignEach ts.py env).length = ts.len ∧ (assignEach ts.py env).findIdx? (·.1) = none
  | .nil => by rw [Tgs.py]; exact ⟨rfl, rfl⟩
  | .cons t ts => by
    rw [Tgs.py, Tg.eachCons]
    obtain ⟨h1, h2⟩ := Tgs.each env ts
    exact ⟨by rw [List.length_cons, h1]; rfl, by rw [List.findIdx?_cons, h2]; rfl⟩
/-! a target's names are where they are said to be, and may be stored -/
mutual
def okT (N : List Str) (sc : Scope) (fnb : Str → Bool) : Tg → Bool
  | .nm i x _ => decide (N[i]? = some x) && (match sc.names.lookup x with | some .local => true | some .cell => fnb x | _ => false)
  | .tp ts _ _ => okTs N sc fnb ts
def okTs (N : List Str) (sc : Scope) (fnb : Str → Bool) : Tgs → Bool
  | .nil => true
  | .cons t ts => okT N sc fnb t && okTs N sc fnb ts
end
theorem setTs_len : ∀ {ts : Tgs} {ds : List D} {s s' : St}, setTs ts ds s = some ((), s') → ds.length = ts.len
  | .nil, [], _, _, _ => rfl
  | .nil, _ :: _, _, _, h => by simp [setTs, fail] at h
  | .cons _ _, [], _, _, h => by simp [setTs, fail] at h
  | .cons t ts, d :: ds, s, s', h => by
    rw [setTs] at h
    obtain ⟨_, s1, _, h2⟩ := bnd_some.mp h
    rw [List.length_cons, setTs_len h2]; rfl
mutual
theorem sT (hN : X.N.Nodup) (hc : X.calm = true) : ∀ (t : Tg), okT X.N X.env.scope X.fn t = true → PG X t.py (tG c t)
  | .nm i x p, ok => by
    rw [okT, Bool.and_eq_true, decide_eq_true_eq] at ok
    rw [Tg.py]
    have hl : Loc X.env.scope x := by
      have := ok.2
      split at this
      · rename_i h; exact .inl h
      · rename_i h; exact .inr h
      · cases this
    have hf : X.fn x = true ∨ X.env.scope.names.lookup x = some .local := by
      have := ok.2
      split at this
      · rename_i h; exact .inr h
      · exact .inl this
      · cases this
    refine ⟨fun pins s σ H v u Q I r h => (pg_name hN ok.1 hl hf).run pins s σ H v u Q I r ?_⟩
    obtain ⟨w, rs, s, d, s', R, q, e, k⟩ := h
    rw [setT, setV] at e
    split at e
    · cases e
      exact k _ (R.set q) ⟨by simp, fun j hj => by
        rw [Tg.ids, List.mem_singleton] at hj
        rw [List.getElem?_set_ne (Ne.symm hj)]⟩
    · cases e
  | .tp ts k p, ok => by
    rw [okT] at ok
    rw [Tg.py]
    obtain ⟨h1, h2⟩ := Tgs.each X.env ts
    refine ⟨fun pins s σ H v u Q I r h => ?_⟩
    obtain ⟨w, rs, s, d, s', R, q, e, k⟩ := h
    cases q with
    | tup h r' =>
      rw [setT] at e
      exact (pg_tup hc (sTs hN hc ts ok) h1 h2).run pins _ σ H _ u Q I r ⟨_, _, rfl, h.sq, by rw [r'.length]; exact setTs_len e, w, rs, s, _, s', R, r', e, fun σ' R' a => k σ' R' (by rw [Tg.ids]; exact a)⟩
    | lst h r' =>
      rw [setT] at e
      exact (pg_lst hc (sTs hN hc ts ok) h1 h2).run pins _ σ H _ u Q I r ⟨_, _, rfl, h.sq, by rw [r'.length]; exact setTs_len e, w, rs, s, _, s', R, r', e, fun σ' R' a => k σ' R' (by rw [Tg.ids]; exact a)⟩
    | _ => simp [setT, fail] at e
theorem sTs (hN : X.N.Nodup) (hc : X.calm = true) : ∀ (t : Tgs), okTs X.N X.env.scope X.fn t = true → PGs X t.py (tGs c t)
  | .nil, _ => by
    rw [Tgs.py]
    refine ⟨fun pins s σ H vs us Q I r h => pgs_nil.run pins s σ H vs us Q I r ?_⟩
    obtain ⟨w, rs, s, ds, s', R, q, e, k⟩ := h
    cases q with
    | nil =>
      rw [setTs] at e
      cases ret_some.mp e
      exact ⟨rfl, k σ R (AgreeBut.refl _ _)⟩
    | cons _ _ => simp [setTs, fail] at e
  | .cons t ts, ok => by
    rw [okTs, Bool.and_eq_true] at ok
    rw [Tgs.py]
    refine ⟨fun pins s σ H vs us Q I r h => (pgs_cons (sT hN hc t ok.1) (sTs hN hc ts ok.2) (by rw [Tg.eachCons]; rfl)).run pins s σ H vs us Q I r ?_⟩
    obtain ⟨w, rs, s, ds, s', R, q, e, k⟩ := h
    cases q with
    | nil => simp [setTs, fail] at e
    | cons q qs =>
      rw [setTs] at e
      obtain ⟨_, s1, e1, e2⟩ := bnd_some.mp e
      refine ⟨_, _, rfl, w, rs, s, _, s1, R, q, e1, fun σ1 R1 a1 => ?_⟩
      exact ⟨w, rs, s1, _, s', R1, qs, e2, fun σ2 R2 a2 => k σ2 R2 (by rw [Tgs.ids]; exact a1.trans a2)⟩
end

/-! ### what is walked -/
def WalkD (c : Cc) (J : L2.It) (items : List D) (w : Wm) (H : Hp) : Prop :=
  ∀ w1 H1, StepN w H w1 H1 → J.stop items.length H1 ∧ ∀ i d, items[i]? = some d → J.go i H1 ∧ ∀ x H2, J.yld i H1 x H2 → ∃ w2, Same2 w1 H1 w2 H2 ∧ Is c w2 H2 x d
theorem StepN.trans {w w1 w2 : Wm} {H H1 H2 : Hp} (a : StepN w H w1 H1) (b : StepN w1 H1 w2 H2) : StepN w H w2 H2 := fun x o h k => by
  obtain ⟨h1, k1⟩ := a x o h k
  exact b x o h1 k1
theorem WalkD.stepN {J : L2.It} {items : List D} {w' : Wm} {H' : Hp} (h : WalkD c J items w H) (st : StepN w H w' H') : WalkD c J items w' H' := fun w1 H1 s1 => h w1 H1 (st.trans s1)
def tI (c : Cc) (m : M (List D)) : TI := fun σ H R => ∃ w rs s items s', Rel c w rs s σ H ∧ m s = some (items, s') ∧ ∀ J H' w', Rel c w' rs s' σ H' → WalkD c J items w' H' → Step w H w' H' → R J H'
theorem PI_or {tg : Expr} {w1 w2 : TI} (h1 : PI X tg e w1) (h2 : PI X tg e w2) : PI X tg e (fun σ H R => w1 σ H R ∨ w2 σ H R) := ⟨fun pins s σ H R I h => h.elim (h1.run pins s σ H R I) (h2.run pins s σ H R I)⟩
theorem PI_imp {tg : Expr} {w1 w2 : TI} (h1 : PI X tg e w1) (k : ∀ σ H R, w2 σ H R → w1 σ H R) : PI X tg e w2 := ⟨fun pins s σ H R I h => h1.run pins s σ H R I (k σ H R h)⟩
/-- a list or a tuple: either, by what comes -/
def iSeq (K : PySem.W.Frag) (tl : TE) : TI := fun σ H R => tl σ H fun x H1 => (∃ a, x = .ref a ∧ (∃ xs, SqL K H1 a xs) ∧ R (Itl K a) H1) ∨ (∃ a, x = .ref a ∧ (∃ xs, SqT K H1 a xs) ∧ R (Itt K a) H1)
theorem pi_seq {tg : Expr} {tl : TE} (hl : PE X e tl) : PI X tg e (iSeq X.K tl) := by
  refine ⟨fun pins s σ H R I h => ?_⟩
  refine thn (hl.run pins s σ H _ I h) fun v s1 ⟨x, H1, I1, r1, q1⟩ => ?_
  rcases q1 with ⟨a, e, ⟨xs, hq⟩, q⟩ | ⟨a, e, ⟨xs, hq⟩, q⟩
  · subst e
    cases r1
    obtain ⟨its, rv, p, hz⟩ := I1.list hq
    refine wpAny_pyIter_list p.isList ?_
    refine ⟨s1.heap.objs.size, [s1.heap.objs.size], _, _, H1, rfl, I1.kept (t' := s1.toks) fun b o e => Heap.get?_push_of_some _ e, turn_list a _, ⟨_, Heap.get?_push_size _ rfl, rfl, rfl⟩, fun b hb => ?_, q⟩
    have e : b = s1.heap.objs.size := by simpa using hb
    subst e
    exact I1.fpOk (Nat.le_refl _) (I1.hok.fresh (Nat.le_refl _))
  · subst e
    cases r1
    obtain ⟨its, rv, p, hz⟩ := I1.tuple hq
    refine wpAny_pyIter_tuple (show s1.heap.IsTuple a its.toArray from p) ?_
    refine ⟨s1.heap.objs.size, [s1.heap.objs.size], _, _, H1, rfl, I1.kept (t' := s1.toks) fun b o e => Heap.get?_push_of_some _ e, turn_tuple a _, ⟨_, Heap.get?_push_size _ rfl, rfl, rfl⟩, fun b hb => ?_, q⟩
    have e : b = s1.heap.objs.size := by simpa using hb
    subst e
    exact I1.fpOk (Nat.le_refl _) (I1.hok.fresh (Nat.le_refl _))
theorem walk_list {a : Addr} {vs : List V} {ds : List D} (h : LsA w H a vs) (r : IsAll c w H vs ds) : WalkD c (Itl c.K a) ds w H := fun w1 H1 st => by
  have h1 := h.stepN st
  have r1 := r.stepN st
  refine ⟨⟨vs, h1.sq, by rw [r.length]; exact Nat.le_refl _⟩, fun i d e => ?_⟩
  obtain ⟨v, e1, q⟩ := r1.get e
  refine ⟨⟨vs, v, h1.sq, e1⟩, fun x H2 y => ?_⟩
  obtain ⟨y1, y2⟩ := y
  subst y1
  have e2 := y2 vs h1.sq
  rw [e1] at e2; cases e2
  exact ⟨w1, Same2.refl _ _, q⟩
theorem walk_tup {a : Addr} {vs : List V} {ds : List D} (h : TpA w H a vs) (r : IsAll c w H vs ds) : WalkD c (Itt c.K a) ds w H := fun w1 H1 st => by
  have h1 := h.stepN st
  have r1 := r.stepN st
  refine ⟨⟨vs, h1.sq, by rw [r.length]; exact Nat.le_refl _⟩, fun i d e => ?_⟩
  obtain ⟨v, e1, q⟩ := r1.get e
  refine ⟨⟨vs, v, h1.sq, e1⟩, fun x H2 y => ?_⟩
  obtain ⟨y1, y2⟩ := y
  subst y1
  have e2 := y2 vs h1.sq
  rw [e1] at e2; cases e2
  exact ⟨w1, Same2.refl _ _, q⟩
theorem walk_range (lo : Int) (n : Nat) : WalkD c (Itr lo n) ((List.range n).map fun (k : Nat) => D.int (lo + k)) w H := fun w1 H1 st => by
  refine ⟨by show n ≤ _; simp, fun i d e => ?_⟩
  rw [List.getElem?_map] at e
  obtain ⟨k, e1, rfl⟩ := Option.map_eq_some_iff.mp e
  obtain ⟨h1, e2⟩ := List.getElem?_eq_some_iff.mp e1
  rw [List.getElem_range] at e2
  subst e2
  rw [List.length_range] at h1
  refine ⟨h1, fun x H2 y => ?_⟩
  obtain ⟨y1, y2⟩ := y
  subst y1 y2
  exact ⟨w1, Same2.refl _ _, .int _⟩
theorem d_iseq {tg : Expr} (hK : X.K = c.K) {m : M D} (h : PE X e (tE c m)) : PI X tg e (tI c (bnd m fun x => ofO (itD x))) := PI_imp (pi_seq h) fun σ H Rq ⟨w, rs, s, items, s', R, e, k⟩ => by
  obtain ⟨d1, s1, e1, e5⟩ := bnd_some.mp e
  obtain ⟨z, ez, ez'⟩ := ofO_some.mp e5
  injection ez' with z1 z2; subst z1 z2
  refine ⟨w, rs, s, d1, _, R, e1, fun v1 H1 w1 R1 q1 st1 => ?_⟩
  rw [hK]
  cases q1 <;> simp only [itD] at ez <;> try cases ez
  · rename_i h r
    exact .inl ⟨_, rfl, ⟨_, h.sq⟩, k _ H1 w1 R1 (walk_list h r) st1⟩
  · rename_i h r
    exact .inr ⟨_, rfl, ⟨_, h.sq⟩, k _ H1 w1 R1 (walk_tup h r) st1⟩
theorem d_irng {tg : Expr} {m : M D} (h : PI X tg e (iRng1 (tCons (tE c m) tNil))) : PI X tg e (tI c (bnd m fun x => match x with
    | .int n => if -(2 ^ 62) ≤ n ∧ n < 2 ^ 62 then ret (rangeD 0 n) else fail
    | _ => fail)) := PI_imp h fun σ H Rq ⟨w, rs, s, items, s', R, e, k⟩ => by
  obtain ⟨d1, s1, e1, e5⟩ := bnd_some.mp e
  split at e5
  · rename_i n
    split at e5
    · rename_i hn
      cases ret_some.mp e5
      refine ⟨w, rs, s, _, _, R, e1, fun v1 H1 w1 R1 q1 st1 => ?_⟩
      cases q1
      refine ⟨n, rfl, hn.1, hn.2, k _ H1 w1 R1 ?_ st1⟩
      have := walk_range (c := c) (w := w1) (H := H1) 0 n.toNat
      unfold rangeD
      rw [show n - 0 = n by omega]
      exact this
    · simp [fail] at e5
  · simp [fail] at e5
theorem d_irng2 {tg : Expr} {m m' : M D} (h : PI X tg e (iRng2 (tCons (tE c m) (tCons (tE c m') tNil)))) : PI X tg e (tI c (bnd m fun x => bnd m' fun y => match x, y with
    | .int i, .int n => if -(2 ^ 62) ≤ i ∧ i < 2 ^ 62 ∧ -(2 ^ 62) ≤ n ∧ n < 2 ^ 62 then ret (rangeD i n) else fail
    | _, _ => fail)) := PI_imp h fun σ H Rq ⟨w, rs, s, items, s', R, e, k⟩ => by
  obtain ⟨d1, s1, e1, e4⟩ := bnd_some.mp e
  obtain ⟨d2, s2, e2, e5⟩ := bnd_some.mp e4
  split at e5
  · rename_i i n
    split at e5
    · rename_i hn
      cases ret_some.mp e5
      refine ⟨w, rs, s, _, _, R, e1, fun v1 H1 w1 R1 q1 st1 => ?_⟩
      refine ⟨w1, rs, s1, _, _, R1, e2, fun v2 H2 w2 R2 q2 st2 => ?_⟩
      cases q1; cases q2
      exact ⟨i, n, rfl, hn, k _ H2 w2 R2 (walk_range i _) (st1.trans st2)⟩
    · simp [fail] at e5
  · simp [fail] at e5
end
end Dm

/-! The D machine: comprehensions. -/
namespace Dm
open PySem L2 PyProof.Rows
section
variable {X : Cx} {c : Cc} {e : Expr} {es : List Expr} {w : Wm} {rs : List V} {s : St} {σ : L2.St} {H : Hp}
theorem wipeL_length (L : List Slot) : ∀ vs : List Nat, (wipeL L vs).length = L.length
  | [] => rfl
  | v :: vs => by unfold wipeL; rw [List.length_set, wipeL_length L vs]
theorem wipeL_in {L : List Slot} {i : Nat} : ∀ {vs : List Nat}, i ∈ vs → i < L.length → (wipeL L vs)[i]? = some .no
  | v :: vs, h, hl => by
    unfold wipeL
    by_cases hi : v = i
    · subst hi
      rw [List.getElem?_set_self (by rw [wipeL_length]; exact hl)]
    · rw [List.getElem?_set_ne hi]
      exact wipeL_in ((List.mem_cons.mp h).resolve_left (Ne.symm hi)) hl
theorem wipeL_out {L : List Slot} {i : Nat} : ∀ {vs : List Nat}, i ∉ vs → (wipeL L vs)[i]? = L[i]?
  | [], _ => rfl
  | v :: vs, h => by
    rw [List.mem_cons, not_or] at h
    unfold wipeL
    rw [List.getElem?_set_ne (Ne.symm h.1)]
    exact wipeL_out h.2
theorem wipe_out' {σ : L2.St} {i : Nat} : ∀ {vs : List Nat}, i ∉ vs → (wipe σ vs)[i]? = σ[i]?
  | [], _ => rfl
  | v :: vs, h => by
    rw [List.mem_cons, not_or] at h
    unfold wipe
    rw [List.getElem?_set_ne (Ne.symm h.1)]
    exact wipe_out' h.2
theorem wipe_in' {σ : L2.St} {i : Nat} : ∀ {vs : List Nat}, i ∈ vs → i < σ.length → (wipe σ vs)[i]? = some none
  | v :: vs, h, hl => by
    unfold wipe
    by_cases hi : v = i
    · subst hi
      rw [List.getElem?_set_self (by rw [wipe_length]; exact hl)]
    · rw [List.getElem?_set_ne hi]
      exact wipe_in' ((List.mem_cons.mp h).resolve_left (Ne.symm hi)) hl
theorem backL_length (L0 L : List Slot) : ∀ vs : List Nat, (backL L0 L vs).length = L.length
  | [] => rfl
  | v :: vs => by unfold backL; rw [List.length_set, backL_length L0 L vs]
def keepV (L0 : List Slot) (v : Nat) : Slot := match L0[v]? with | some (.val d) => .val d | _ => .no
theorem backL_in {L0 L : List Slot} {i : Nat} : ∀ {vs : List Nat}, i ∈ vs → i < L.length → (backL L0 L vs)[i]? = some (keepV L0 i)
  | v :: vs, h, hl => by
    unfold backL
    by_cases hi : v = i
    · subst hi
      rw [List.getElem?_set_self (by rw [backL_length]; exact hl)]
      rfl
    · rw [List.getElem?_set_ne hi]
      exact backL_in ((List.mem_cons.mp h).resolve_left (Ne.symm hi)) hl
theorem backL_out {L0 L : List Slot} {i : Nat} : ∀ {vs : List Nat}, i ∉ vs → (backL L0 L vs)[i]? = L[i]?
  | [], _ => rfl
  | v :: vs, h => by
    rw [List.mem_cons, not_or] at h
    unfold backL
    rw [List.getElem?_set_ne (Ne.symm h.1)]
    exact backL_out h.2
theorem wipe_of_agree {σ σ' : L2.St} {ids vs : List Nat} (a : AgreeBut ids σ σ') (h : ∀ i ∈ ids, i ∈ vs) : wipe σ' vs = wipe σ vs := by
  refine List.ext_getElem? fun i => ?_
  by_cases hi : i ∈ vs
  · by_cases hl : i < σ.length
    · rw [wipe_in' hi hl, wipe_in' hi (by rw [a.1]; exact hl)]
    · rw [List.getElem?_eq_none (by rw [wipe_length, a.1]; omega), List.getElem?_eq_none (by rw [wipe_length]; omega)]
  · rw [wipe_out' hi, wipe_out' hi, a.2 i fun z => hi (h i z)]
theorem wipe_wipe {σ : L2.St} (vs : List Nat) : wipe (wipe σ vs) vs = wipe σ vs := by
  refine List.ext_getElem? fun i => ?_
  by_cases hi : i ∈ vs
  · by_cases hl : i < σ.length
    · rw [wipe_in' hi hl, wipe_in' hi (by rw [wipe_length]; exact hl)]
    · rw [List.getElem?_eq_none (by rw [wipe_length, wipe_length]; omega), List.getElem?_eq_none (by rw [wipe_length]; omega)]
  · rw [wipe_out' hi]
theorem Rel.wipe (R : Rel c w rs s σ H) (vs : List Nat) : Rel c w rs { s with L := wipeL s.L vs } (L2.wipe σ vs) H := by
  refine ⟨by rw [wipe_length]; show (wipeL s.L vs).length = _; rw [wipeL_length]; exact R.len, fun i y x e1 e2 => ?_, R.st⟩
  by_cases hi : i ∈ vs
  · by_cases hl : i < s.L.length
    · have e1 : (wipeL s.L vs)[i]? = some y := e1
      rw [wipeL_in hi hl] at e1; cases e1
      trivial
    · have e1 : (wipeL s.L vs)[i]? = some y := e1
      rw [List.getElem?_eq_none (by rw [wipeL_length]; omega)] at e1; cases e1
  · have e1 : (wipeL s.L vs)[i]? = some y := e1
    rw [wipeL_out hi] at e1
    rw [wipe_out' hi] at e2
    exact R.sl i y x e1 e2
/-- behind a block: the slots of its own as they were -/
theorem Rel.back {w1 : Wm} {H1 : Hp} {s1 : St} {vs : List Nat} (R : Rel c w rs s σ H) (R1 : Rel c w1 rs { s1 with L := wipeL s1.L vs } (L2.wipe σ vs) H1) (st : Step w H w1 H1) : Rel c w1 rs { s1 with L := backL s.L s1.L vs } σ H1 := by
  have hl : s1.L.length = σ.length := by
    have := R1.len
    rw [wipe_length] at this
    rw [← this]
    show _ = (wipeL s1.L vs).length
    rw [wipeL_length]
  refine ⟨by show (backL s.L s1.L vs).length = _; rw [backL_length]; exact hl, fun i y x e1 e2 => ?_, R1.st⟩
  have e1 : (backL s.L s1.L vs)[i]? = some y := e1
  by_cases hi : i ∈ vs
  · by_cases hil : i < s1.L.length
    · rw [backL_in hi hil] at e1; cases e1
      unfold keepV
      split
      · rename_i d e3
        obtain ⟨v, e4, q⟩ := R.val e3
        rw [e4] at e2; cases e2
        exact ⟨v, rfl, q.step st⟩
      · trivial
    · rw [List.getElem?_eq_none (by rw [backL_length]; omega)] at e1; cases e1
  · rw [backL_out hi] at e1
    refine R1.sl i y x ?_ (by rw [wipe_out' hi]; exact e2)
    show (wipeL s1.L vs)[i]? = _
    rw [wipeL_out hi]; exact e1
/-- the growing list is another's -/
def wout (w : Wm) (p : Addr) : Wm := fun a => if a = p then .out else w a
theorem wout_same {p : Addr} : wout w p p = .out := by unfold wout; rw [if_pos rfl]
theorem wout_ne {p a : Addr} (h : a ≠ p) : wout w p a = w a := by unfold wout; rw [if_neg h]
theorem Same2.wout {p : Addr} {o : HO} (hp : H p = none) : Same2 w H (wout w p) (upd H p o) := fun a u h => by
  have ne : a ≠ p := ne_of_none h hp
  exact ⟨by rw [upd_ne ne]; exact h, wout_ne ne⟩
theorem Same2.step {w' : Wm} {H' : Hp} (h : Same2 w H w' H') : Step w H w' H' := fun a o e _ => h a o e
/-- it grows: all others stay -/
theorem Rel.grow {p : Addr} {o' : HO} (R : Rel c w rs s σ H) (hw : w p = .out) : Rel c w rs s σ (upd H p o') := by
  have st : ∀ a u, H a = some u → w a ≠ .out → (upd H p o') a = some u ∧ w a = w a := fun a u h k => by
    have ne : a ≠ p := fun z => k (by rw [z]; exact hw)
    exact ⟨by rw [upd_ne ne]; exact h, rfl⟩
  exact R.keepN (fun a o h k => ⟨(st a o h (by rw [k]; intro z; cases z)).1, k⟩) (fun a o i q h k => st a o h (by rw [k]; intro z; cases z)) (fun a o i q h k => st a o h (by rw [k]; intro z; cases z))
theorem StepN.grow {p : Addr} {o' : HO} (hw : w p = .out) : StepN w H w (upd H p o') := fun a u h k => by
  have ne : a ≠ p := fun z => by rw [z, hw] at k; cases k
  exact ⟨by rw [upd_ne ne]; exact h, k⟩
/-- the list is nobody's in the end -/
theorem Rel.done {p : Addr} (R : Rel c w rs s σ H) (hw : w p = .out) : Rel c (wnew w p) rs s σ H := by
  have ne : ∀ a, w a ≠ .out → wnew w p a = w a := fun a k => by
    unfold wnew; rw [if_neg]; intro z; rw [z] at k; exact k hw
  exact R.keepN (fun a o h k => ⟨h, by rw [ne a (by rw [k]; intro z; cases z)]; exact k⟩) (fun a o i q h k => ⟨h, ne a (by rw [k]; intro z; cases z)⟩) (fun a o i q h k => ⟨h, ne a (by rw [k]; intro z; cases z)⟩)
theorem StepN.done {p : Addr} (hw : w p = .out) : StepN w H (wnew w p) H := fun a u h k => by
  refine ⟨h, ?_⟩
  unfold wnew
  split
  · rfl
  · exact k

theorem i_comp {tg : Tg} {ids : List Nat} {mi : M (List D)} {mt : M Bool} {me : M D} (hid : ∀ i ∈ tg.ids, i ∈ ids) :
    ∀ σ H Q, tE c (bnd mi fun items => inScope ids (runItems ids tg (bnd mt fun b => if b then bnd me fun d => ret [d] else ret []) items)) σ H Q → tLc (tI c mi) (tG c tg) (tBo c mt) (tE c me) ids σ H Q := fun σ H Q ⟨w, rs, s, d, s', R, e, k⟩ => by
  obtain ⟨items, s1, e1, e2⟩ := bnd_some.mp e
  unfold inScope at e2
  split at e2
  · rename_i ds s2 e3
    split at e2
    · rename_i hz
      cases e2
      refine ⟨w, rs, s, items, s1, R, e1, fun J H1 w1 R1 wd st1 A0 hA => ?_⟩
      let body : M (List D) := bnd mt fun b => if b then bnd me fun d => ret [d] else ret []
      let Wp : Nat → Hp → Prop := fun i H => i ≤ items.length ∧ ∃ w2 sI acc as, Rel c w2 rs { sI with L := wipeL sI.L ids } (L2.wipe σ ids) H ∧ H A0 = some (.lst acc) ∧ w2 A0 = .out ∧ IsAll c w2 H acc as ∧
        StepN w1 H1 w2 H ∧ (∀ a o, H1 a = some o → w1 a = .out → H a = some o ∧ w2 a = .out) ∧ ∃ zs, runItems ids tg body (items.drop i) sI = some (zs, s2) ∧ as ++ zs = ds
      have W0 : Wp 0 (upd H1 A0 (.lst [])) := by
        refine ⟨Nat.zero_le _, wout w1 A0, s1, [], [], ?_, upd_same, wout_same, .nil, (Same2.wout hA).step.n, fun a o h k => ?_, ds, by simpa using e3, rfl⟩
        · exact (R1.ext (Same2.wout hA)).wipe ids
        · have := Same2.wout (o := .lst []) (w := w1) hA a o h
          exact ⟨this.1, this.2.trans k⟩
      refine ⟨fun i m H => m = items.length - i ∧ Wp i H, ⟨items.length, by simp, W0⟩, ?_⟩
      rintro i m H2 ⟨rfl, hi, w2, sI, acc, as, R2, hacc, hw2, ra, st2, so2, zs, ez, ed⟩
      have stp : Step w1 H1 w2 H2 := fun a o h k => by
        rcases k with k | k
        · exact ⟨(st2 a o h k).1, (st2 a o h k).2.trans k.symm⟩
        · exact ⟨(so2 a o h k).1, (so2 a o h k).2.trans k.symm⟩
      obtain ⟨wstop, wgo⟩ := wd w2 H2 stp.n
      by_cases hlt : i < items.length
      · refine .inr ?_
        have eg : items[i]? = some items[i] := by simp [hlt]
        obtain ⟨g1, g2⟩ := wgo i _ eg
        refine ⟨g1, Wp (i + 1), fun H' hW => ⟨items.length - (i + 1), by omega, rfl, hW⟩, fun x H3 y => ?_⟩
        obtain ⟨w3, sm3, q3⟩ := g2 x H3 y
        -- the machine's turn
        rw [List.drop_eq_getElem_cons hlt, runItems] at ez
        obtain ⟨_, t1, ez1, ez⟩ := bnd_some.mp ez
        cases ez1
        obtain ⟨_, t2, ez2, ez⟩ := bnd_some.mp ez
        obtain ⟨ys, t3, ez3, ez⟩ := bnd_some.mp ez
        obtain ⟨zs', t4, ez4, ez⟩ := bnd_some.mp ez
        cases ret_some.mp ez
        obtain ⟨b, t5, eb, ey⟩ := bnd_some.mp ez3
        have R3 := R2.ext sm3
        have acc3 : H3 A0 = some (.lst acc) := (sm3 _ _ hacc).1
        have out3 : w3 A0 = .out := (sm3 _ _ hacc).2.trans hw2
        refine ⟨w3, rs, _, _, t2, R3, q3, ez2, fun σ4 R4 ag => ⟨?_, ?_⟩⟩
        · rw [wipe_of_agree ag hid, wipe_wipe]
        refine ⟨w3, rs, t2, b, t5, R4, eb, fun H5 w5 R5 st5 => ?_⟩
        have so5 : Step w2 H2 w5 H5 := sm3.step.trans st5
        have fin : ∀ {w6 : Wm} {H6 : Hp} {t6 : St} {acc' : List V} {as' : List D}, Rel c w6 rs t6 σ4 H6 → H6 A0 = some (.lst acc') → w6 A0 = .out → IsAll c w6 H6 acc' as' → StepN w1 H1 w6 H6 → (∀ a o, H1 a = some o → w1 a = .out → H6 a = some o ∧ w6 a = .out) →
            runItems ids tg body (items.drop (i + 1)) t6 = some (zs', s2) → as' ++ zs' = ds → Wp (i + 1) H6 := by
          intro w6 H6 t6 acc' as' r1 r2 r3 r4 r5 r6 r7 r8
          refine ⟨hlt, w6, t6, acc', as', ?_, r2, r3, r4, r5, r6, zs', r7, r8⟩
          have := r1.wipe ids
          rw [wipe_of_agree ag hid, wipe_wipe] at this
          exact this
        have ws5 := stp.trans so5
        have hA5 : H5 A0 = some (.lst acc) ∧ w5 A0 = .out := by
          have := st5 A0 _ acc3 (.inr out3)
          exact ⟨this.1, this.2.trans out3⟩
        dsimp only
        split at ey
        · rename_i hb
          rw [if_pos hb]
          obtain ⟨d6, t6, e6, ey⟩ := bnd_some.mp ey
          cases ret_some.mp ey
          refine ⟨w5, rs, t5, d6, _, R5, e6, fun v6 H6 w6 R6 q6 st6 => ⟨acc, ?_, ?_, ?_⟩⟩
          · exact (st6 _ _ hA5.1 (.inr hA5.2)).1
          · have := ra.length
            have h2 : (as ++ ([d6] ++ zs')).length ≤ sizeLine := by rw [ed]; exact hz
            rw [List.length_append, List.length_append, List.length_singleton] at h2
            omega
          · have hA6 := st6 _ _ hA5.1 (.inr hA5.2)
            have o6 : w6 A0 = .out := hA6.2.trans hA5.2
            have gN : StepN w6 H6 w6 (upd H6 A0 (.lst (acc ++ [v6]))) := StepN.grow o6
            have ws6 := ws5.trans st6
            refine fin (as' := as ++ [d6]) (R6.grow o6) upd_same o6 ?_ ?_ ?_ ez4 (by rw [← ed]; simp)
            · exact ((ra.step (so5.trans st6)).append (.cons q6 .nil)).stepN gN
            · exact fun a o h k => gN a o (ws6.n a o h k).1 (ws6.n a o h k).2
            · intro a o h k
              have ne : a ≠ A0 := ne_of_none h hA
              have z := ws6 a o h (.inr k)
              exact ⟨by rw [upd_ne ne]; exact z.1, z.2.trans k⟩
        · rename_i hb
          rw [if_neg hb]
          cases ret_some.mp ey
          exact fin R5 hA5.1 hA5.2 (ra.step so5) ws5.n (fun a o h k => ⟨(ws5 a o h (.inr k)).1, (ws5 a o h (.inr k)).2.trans k⟩) ez4 (by rw [← ed]; rfl)
      · have ei : i = items.length := by omega
        subst ei
        refine .inl ⟨wstop, ?_⟩
        rw [List.drop_length, runItems] at ez
        cases ret_some.mp ez
        rw [List.append_nil] at ed
        subst ed
        have dn : StepN w2 H2 (wnew w2 A0) H2 := StepN.done hw2
        have st3 : Step w1 H1 (wnew w2 A0) H2 := fun a o h k => by
          have ne : a ≠ A0 := ne_of_none h hA
          have z := stp a o h k
          refine ⟨z.1, ?_⟩
          unfold wnew
          rw [if_neg ne]
          exact z.2
        refine k _ H2 (wnew w2 A0) (R1.back (R2.done hw2) st3) (.lst ⟨by unfold wnew; rw [if_pos rfl], hacc⟩ (ra.stepN dn)) (st1.trans st3)
    · cases e2
  · cases e2
theorem d_comp {tg : Tg} {ids : List Nat} {mi : M (List D)} {mt : M Bool} {me : M D} (hid : ∀ i ∈ tg.ids, i ∈ ids) (h : PE X e (tLc (tI c mi) (tG c tg) (tBo c mt) (tE c me) ids)) :
    PE X e (tE c (bnd mi fun items => inScope ids (runItems ids tg (bnd mt fun b => if b then bnd me fun d => ret [d] else ret []) items))) := pimp h (i_comp hid)
end
end Dm

/-! The D machine: comprehensions of any number of clauses. -/
namespace Dm
open PySem L2 PyProof.Rows
abbrev lcE (elt : Expr) (gens : List Comprehension) (scope : Scope) (pos : Pos) : Expr := .ListComp elt gens scope pos
/-- what a turn does behind its tests: the next clause, or the element -/
def outOf (elt : Expr) (gens : List Comprehension) (scope : Scope) (pos : Pos) (i : Nat) (acc : Value) (env : PySem.Env) : Sem Unit :=
  match gens[i]? with
  | some g => do
    let x ← eval g.iter env
    standAt g.iter.pos
    let x ← foldedSetIterable g.iter env x
    let _ ← runOwn (.compStart (lcE elt gens scope pos) i (← holding [x] (pyIter x)) acc env) env
  | none => do
    let _ ← call (.builtin "list.append") [acc, ← eval elt env]
def testsOf (ifs : List Expr) (env : PySem.Env) : Sem Bool := forIn ifs true fun c r => if r = true then do let ok ← isTrue c env (eval c env); pure (ForInStep.yield ok) else pure (ForInStep.yield r)
theorem turn_at {elt : Expr} {gens : List Comprehension} {scope : Scope} {pos : Pos} {i : Nat} {t iter : Expr} {ifs : List Expr} {it acc : Value} {env : PySem.Env} (h : gens[i]? = some ⟨t, iter, ifs, 0⟩) (hn : ∀ g, gens[i + 1]? = some g → g.is_async = 0) :
    compTurn (lcE elt gens scope pos) i it acc env = (do
      standAt iter.pos
      match ← pyNext it with
      | none => pure (.done .next)
      | some v =>
        letOwnedTupleGo t it v
        assign t env v
        let ok ← testsOf ifs env
        if ok then outOf elt gens scope pos (i + 1) acc env
        again (.compLoop (lcE elt gens scope pos) i it acc env)) := by
  unfold compTurn lcE
  dsimp only
  rw [h]
  unfold outOf testsOf
  cases hg : gens[i + 1]? with
  | none => rfl
  | some g =>
    have := hn g hg
    obtain ⟨gt, gi, gf, ga⟩ := g
    simp only at this
    subst this
    simp only [bind_assoc, pure_bind]
    rfl
section
variable {prog : Program} {w : World} {A : Around} {R : Result → Shared → Prop} {s : Shared} {elt t iter : Expr} {gens : List Comprehension} {ifs : List Expr} {scope : Scope} {pos : Pos} {it acc : Value} {env : PySem.Env} {i : Nat}
/-- a clause's loop, that nothing leaves by an error -/
theorem loop_at (h : gens[i]? = some ⟨t, iter, ifs, 0⟩) (hn : ∀ g, gens[i + 1]? = some g → g.is_async = 0) (J : Nat → Shared → Prop)
    (turn : ∀ n s, J n s → wpAny (model prog w) A (pyNext it) (fun r s1 => match r with
      | none => R (.ok .next) s1
      | some v => wpAny (model prog w) A (letOwnedTupleGo t it v) (fun _ s2 => wpAny (model prog w) A (assign t env v) (fun _ s3 => wpAny (model prog w) A (testsOf ifs env) (fun ok s4 =>
          if ok = true then wpAny (model prog w) A (outOf elt gens scope pos (i + 1) acc env) (fun _ s5 => ∃ m, m < n ∧ J m s5) (fun _ _ => False) s4 else ∃ m, m < n ∧ J m s4) (fun _ _ => False) s3) (fun _ _ => False) s2) (fun _ _ => False) s1) (fun _ _ => False) s)
    (n : Nat) (h0 : J n s) : codeAny (model prog w) A (.compLoop (lcE elt gens scope pos) i it acc env) R s := by
  refine codeAny_loop rfl J (fun n s hJ => ?_) n h0
  show wpAny _ A ((compTurn (lcE elt gens scope pos) i it acc env).onRaise (fun x => do noteFrame x env; theTreesLotGoes x)) _ _ s
  refine wpAny_noted ?_
  rw [turn_at h hn]
  refine wpAny_bind (wpAny_standAt (wpAny_bind (thnF (turn n s hJ) fun r s1 q1 => ?_)))
  cases r with
  | none => exact wpAny_pure q1
  | some v =>
    refine wpAny_bind (thnF q1 fun _ s2 q2 => wpAny_bind (thnF q2 fun _ s3 q3 => wpAny_bind (thnF q3 fun ok s4 q4 => ?_)))
    cases ok with
    | false => exact wpAny_pure ⟨rfl, q4⟩
    | true => exact wpAny_bind (thnF q4 fun _ s5 q5 => wpAny_pure ⟨rfl, q5⟩)
theorem start_at (h : gens[i]? = some ⟨t, iter, ifs, 0⟩) (h0 : codeAny (model prog w) A (.compLoop (lcE elt gens scope pos) i it acc env) R s)
    (h1 : wpAny (model prog w) A (pyIter it) (fun it' s' => codeAny (model prog w) A (.compLoop (lcE elt gens scope pos) i it' acc env) R s') (notedBy (model prog w) A env fun x s' => R (.error x) s') s) :
    codeAny (model prog w) A (.compStart (lcE elt gens scope pos) i it acc env) R s := by
  refine codeAny_of_tree ?_
  show wpAny _ _ ((compStart (lcE elt gens scope pos) i it acc env).onRaise (fun x => do noteFrame x env; standAt theWindowsPlace)) _ _ s
  refine wpAny_notedAt ?_
  have hc : clausesOf (lcE elt gens scope pos) = gens := rfl
  unfold compStart
  rw [hc, h]
  show wpAny _ _ (ask >>= _) _ _ s
  refine wpAny_bind (wpAny_askSetting (wpAny_ite ?_))
  split
  · first
      | exact wpAny_bind (wpAny_pure (wpAny_pure ⟨rfl, h0⟩))
      | exact wpAny_pure ⟨rfl, h0⟩
  · refine wpAny_bind (wpAny_rule ?_)
    show wpAny _ _ (standAt iter.pos >>= _) _ _ s
    exact wpAny_bind (wpAny_standAt (wpAny_bind (wpAny_mono h1 (fun it' s' q => wpAny_pure ⟨rfl, q⟩) fun _ _ x => x)))
end
/-- a clause, with what it means -/
structure Cl where
  tg : Expr
  iter : Expr
  ifs : List Expr
  wi : TI
  g : TG
  tt : TT
  vs : List Nat
def Cl.py (q : Cl) : Comprehension := ⟨q.tg, q.iter, q.ifs, 0⟩
def tOut (te : TE) (D : Addr) : List Cl → L2.St → Hp → (Hp → Prop) → Prop
  | [] => fun σ H Nx => te σ H fun y H7 => ∃ acc, H7 D = some (.lst acc) ∧ acc.length < sizeLine ∧ Nx (upd H7 D (.lst (acc ++ [y])))
  | q :: cs => fun σ H Nx => q.wi σ H fun J H1 => ∃ W : Nat → Nat → Hp → Prop, (∃ m, W 0 m H1) ∧ ∀ j k H, W j k H →
      (J.stop j H ∧ Nx H) ∨ (J.go j H ∧ ∃ N1 : Hp → Prop, (∀ H', N1 H' → ∃ k', k' < k ∧ W (j + 1) k' H') ∧ ∀ x H', J.yld j H x H' → q.g x (wipe σ q.vs) H' fun σ3 H5 => wipe σ3 q.vs = wipe σ q.vs ∧ q.tt σ3 H5 fun b H6 => if b = true then tOut te D cs σ3 H6 N1 else N1 H6)
def vsOf : List Cl → List Nat
  | [] => []
  | q :: _ => q.vs
def Nest : List Cl → Prop
  | [] => True
  | q :: cs => (∀ i ∈ vsOf cs, i ∈ q.vs) ∧ Nest cs
structure ClOk (Y : Cx) (q : Cl) : Prop where
  i : PI Y q.tg q.iter q.wi
  g : PG Y q.tg q.g
  t : PTs Y q.ifs q.tt
  f : ∀ env x, foldedSetIterable q.iter env x = pure x
theorem drop_get {gens : List Comprehension} {i : Nat} {cs : List Cl} (h : gens.drop i = cs.map Cl.py) (j : Nat) : gens[i + j]? = (cs[j]?).map Cl.py := by
  rw [← List.getElem?_map, ← h, List.getElem?_drop]
theorem drop_next {gens : List Comprehension} {i : Nat} {q : Cl} {cs : List Cl} (h : gens.drop i = (q :: cs).map Cl.py) : gens.drop (i + 1) = cs.map Cl.py := by
  rw [← List.drop_drop, h]; rfl
theorem async0 {gens : List Comprehension} {i : Nat} {cs : List Cl} (h : gens.drop i = cs.map Cl.py) (j : Nat) : ∀ g, gens[i + j]? = some g → g.is_async = 0 := fun g e => by
  rw [drop_get h] at e
  obtain ⟨q, _, rfl⟩ := Option.map_eq_some_iff.mp e
  rfl
section
variable {Y : Cx} {elt : Expr} {gens : List Comprehension} {scope : Scope} {pos : Pos} {te : TE} {D : Addr}
theorem wipe_more {σ σ3 : L2.St} {vs vs' : List Nat} (h : wipe σ3 vs = wipe σ vs) (hs : ∀ i ∈ vs', i ∈ vs) : (wipe σ vs).length = (wipe σ3 vs').length ∧ ∀ (j : Nat) v, (wipe σ vs)[j]? = some (some v) → (wipe σ3 vs')[j]? = some (some v) := by
  refine ⟨by rw [← h, wipe_length, wipe_length], fun j v e => ?_⟩
  rw [← h] at e
  obtain ⟨e1, e2⟩ := wipe_some e
  rw [wipe_out fun z => e2 (hs j z)]
  exact e1
theorem out_ok (hc : Y.calm = true) (hx : Y.xe = fun _ _ => False) (he : PE Y elt te) : ∀ (cs : List Cl) (i : Nat), gens.drop i = cs.map Cl.py → (∀ q ∈ cs, ClOk Y q) → Nest cs → ∀ (pins : List (Addr × Obj)) (s : Shared) (σ : L2.St) (H : Hp) (Nx : Hp → Prop), L2.Inv Y pins σ H s → tOut te D cs σ H Nx →
    wpAny (model Y.prog Y.w) Y.A (outOf elt gens scope pos i (.ref D) Y.env) (fun _ s' => ∃ H', L2.Inv Y pins (wipe σ (vsOf cs)) H' s' ∧ Nx H') (fun _ _ => False) s
  | [], i, hd, _, _, pins, s, σ, H, Nx, I, h => by
    have hg : gens[i]? = none := by
      have := drop_get hd 0
      simpa using this
    unfold outOf
    rw [hg]
    have r := he.run pins s σ H _ I h
    rw [hx] at r
    refine wpAny_bind (thnF r fun z s1 ⟨yv, H1, I1, r1, acc, hD, hz, nx⟩ => ?_)
    exact wpAny_bind (app_ok I1 hD hz r1 fun s2 I2 => wpAny_pure ⟨_, I2, nx⟩)
  | q :: cs, i, hd, hq, hn, pins, s, σ, H, Nx, I, h => by
    have hg : gens[i]? = some q.py := by
      have := drop_get hd 0
      simpa using this
    have hg : gens[i]? = some ⟨q.tg, q.iter, q.ifs, 0⟩ := hg
    have hd' := drop_next hd
    have Q := hq q List.mem_cons_self
    unfold outOf
    rw [hg]
    dsimp only
    have r := Q.i.run pins s σ H _ I h
    rw [hx] at r
    refine wpAny_bind (thnF r fun xv s1 k1 => ?_)
    refine wpAny_bind (wpAny_standAt (wpAny_bind (wpAny_of_eq (Q.f _ _) (wpAny_bind (wpAny_holding (thnF k1 fun itv s2 k2 => ?_))))))
    obtain ⟨a, fp, tn, J, H2, rfl, I2, T, st2, f2, W, ⟨m0, w0⟩, turn⟩ := k2
    have fo : ∀ {H' : Hp}, (∀ b ∈ fp, H' b = none) → ∀ b ∈ fp, FpOk Y pins H' b := fun hn b hb => ⟨hn b hb, (f2 b hb).2⟩
    refine wpAny_bind (wpAny_runOwn ?_)
    rw [Around.mark_none]
    have loop : codeAny (model Y.prog Y.w) Y.A (.compLoop (lcE elt gens scope pos) i (.ref a) (.ref D) Y.env) (fun r s' => match r with
        | .ok _ => ∃ H', L2.Inv Y pins (wipe σ q.vs) H' s' ∧ Nx H'
        | .error _ => False) s2 := by
      refine loop_at hg (async0 hd 1) (fun k s' => ∃ j H', L2.Inv Y pins (wipe σ q.vs) H' s' ∧ tn j s'.heap ∧ (∀ b ∈ fp, H' b = none) ∧ W j k H') ?_ m0 ⟨0, H2, I2.weak (wipe_length _ _) (fun j v e => (wipe_some e).1), st2, fun b hb => (f2 b hb).1, w0⟩
      rintro k s3 ⟨j, H3, I3, st3, n3, w3⟩
      rcases turn j k H3 w3 with ⟨stop, nx⟩ | ⟨go, N1, hN1, step⟩
      · refine thnF (T.done Y rfl rfl rfl hc j _ s3 (wipe σ q.vs) H3 (fun _ _ => False) I3 (fo n3) st3 stop) fun r s4 ⟨hr, I4⟩ => ?_
        subst hr
        exact ⟨H3, I4, nx⟩
      · refine thnF (T.item Y rfl rfl rfl hc j _ s3 (wipe σ q.vs) H3 (fun _ _ => False) I3 (fo n3) st3 go) fun r s4 ⟨u, hr, k4⟩ => ?_
        subst hr
        refine thnF k4 fun _ s5 ⟨x, H5, I5, r5, y5, st5, n5⟩ => ?_
        have I5' := I5.pinned (fo n5) (T.obj _ _ st5)
        have rg := Q.g.run _ s5 (wipe σ q.vs) H5 x u _ I5' r5 (step x H5 y5)
        rw [hx] at rg
        refine thnF rg fun _ s6 ⟨σ6, H6, I6, hw6, q6⟩ => ?_
        have rt := Q.t.run _ s6 σ6 H6 _ I6 q6
        rw [hx] at rt
        refine thnF rt fun b s7 ⟨H7, I7, q7⟩ => ?_
        have fin : ∀ {vs' : List Nat} {s' : Shared} {H' : Hp}, (∀ i ∈ vs', i ∈ q.vs) → L2.Inv Y (pins ++ pinsAt fp s5.heap) (wipe σ6 vs') H' s' → N1 H' → ∃ m, m < k ∧ ∃ j H', L2.Inv Y pins (wipe σ q.vs) H' s' ∧ tn j s'.heap ∧ (∀ b ∈ fp, H' b = none) ∧ W j m H' := fun {vs' s' H'} hvs I' nx => by
          obtain ⟨m', hm, w'⟩ := hN1 H' nx
          obtain ⟨l1, l2⟩ := wipe_more hw6 hvs
          have pin' : ∀ b ∈ fp, ∀ o, s5.heap.get? b = some o → s'.heap.get? b = some o ∧ H' b = none := fun b hb o e => by
            obtain ⟨z1, z2, _⟩ := I'.pin (b, o) (List.mem_append_right _ (List.mem_append_right _ (mem_pinsAt hb e)))
            exact ⟨z1, z2⟩
          refine ⟨m', hm, j + 1, H', I'.unpinned.weak l1 l2, T.keep _ _ _ st5 fun b hb o e => (pin' b hb o e).1, fun b hb => ?_, w'⟩
          obtain ⟨o, e, _⟩ := T.obj _ _ st5 b hb
          exact (pin' b hb o e).2
        cases b with
        | false => exact fin (vs' := []) (fun _ z => by cases z) I7 q7
        | true =>
          refine thnF (out_ok hc hx he cs (i + 1) hd' (fun z hz => hq z (List.mem_cons_of_mem _ hz)) hn.2 _ s7 σ6 H7 N1 I7 q7) fun _ s8 ⟨H8, I8, nx⟩ => ?_
          exact fin hn.1 I8 nx
    refine codeAny_mono (start_at hg loop (T.self Y.A 0 _ _ _ st2 loop)) fun r s' hr => ?_
    cases r with
    | ok f => exact wpAny_pure hr
    | error e => exact hr.elim
end
/-- the whole of it: D the new list -/
def tLcN (te : TE) (q : Cl) (cs : List Cl) : TE := fun σ H Q => q.wi σ H fun J H1 => ∀ D, H1 D = none → ∃ W : Nat → Nat → Hp → Prop, (∃ m, W 0 m (upd H1 D (.lst []))) ∧ ∀ i m H, W i m H →
  (J.stop i H ∧ Q (.ref D) H) ∨ (J.go i H ∧ ∃ N1 : Hp → Prop, (∀ H', N1 H' → ∃ m', m' < m ∧ W (i + 1) m' H') ∧ ∀ x H', J.yld i H x H' → q.g x (wipe σ q.vs) H' fun σ2 H2 => wipe σ2 q.vs = wipe σ q.vs ∧ q.tt σ2 H2 fun b H3 => if b = true then tOut te D cs σ2 H3 N1 else N1 H3)
abbrev nl0 : Obj := { cls := .type "list", data := .seq ([] : List Value).toArray }
section
variable {X : Cx}
abbrev Blk (X : Cx) (s : Shared) (H : Hp) (scope : Scope) (C : Addr) (cl : List (Str × Addr)) (fp : List Addr) : Cx := X.blk s H scope (compEnvC scope cl C X.env) fp
theorem lcN_core {pins : List (Addr × Obj)} {s : Shared} {σ : L2.St} {H : Hp} {Q : VK} {elt : Expr} {q : Cl} {cs : List Cl} {scope : Scope} {own : List (Str × Nat)} {pos pos' : Pos} {te : TE} {use : Option (Value → Sem Unit)} {Qf : Value → Shared → Prop}
    (hc : X.calm = true) (hN : X.N.Nodup) (I : L2.Inv X pins σ H s) (hi : PI X q.tg q.iter q.wi) (ok : BlkOk X.N X.env.scope scope own) (hv : q.vs = own.map (·.2)) (hf : ∀ x, foldedSetIterable q.iter X.env x = pure x) (hn : Nest (q :: cs))
    (hq : ∀ s H C cl fp, PG (Blk X s H scope C cl fp) q.tg q.g ∧ PTs (Blk X s H scope C cl fp) q.ifs q.tt ∧ ∀ z ∈ cs, ClOk (Blk X s H scope C cl fp) z) (he : ∀ s H C cl fp, PE (Blk X s H scope C cl fp) elt te)
    (h : tLcN te q cs σ H Q)
    (back : ∀ D C s' m H', L2.Inv X pins σ H' s' → Q (.ref D) H' → s'.heap.Ns C m → FpOk X pins H' C → compPost (model X.prog X.w) X.A X.xe use Qf (.ref D) C (.ok .next) s') :
    wpAny (model X.prog X.w) X.A (comprehension (lcE elt ((q :: cs).map Cl.py) scope pos) scope X.env pos' (newList []) false (eval q.iter X.env) use) Qf X.xe s := by
  have hfr : ∀ y ∈ scope.names, y.2 = .free → ∃ c, X.env.cells.lookup y.1 = some c := fun y hy e => (ok.free y hy e).elim (fun k => I.ok.has _ (.inl k)) fun k => I.ok.has _ (.inr k)
  have first := hi.run pins s σ H _ I h
  refine wpAny_comprehension_free (use := use) (g := q.py) (gs := cs.map Cl.py) rfl hf (closure_ok hfr) ok.kind (fun y hy e => by rw [ok.uniq y hy, e]) (thn first fun xv s1 k1 => thn k1 fun itv s2 k2 => ?_)
  obtain ⟨a, fp, tn, J, H2, rfl, I2, T, st2, f2, qq⟩ := k2
  refine wpAny_newObj_type (newEnv_comp ?_) (by show 0 ≤ sizeLine; decide)
  generalize eD : s2.heap.objs.size = D
  have hD : H2 D = none := I2.hok.fresh (Nat.le_of_eq eD)
  obtain ⟨W, ⟨m0, w0⟩, turn⟩ := qq D hD
  generalize e3 : ({ s2 with heap := s2.heap.push nl0 } : Shared) = s3
  have h3 : s3.heap = s2.heap.push nl0 := by rw [← e3]
  have I3 : L2.Inv X pins σ (upd H2 D (.lst [])) s3 := by
    rw [← e3]
    exact I2.laid (t' := s2.toks) (fun b o e => Heap.get?_push_of_some _ e) (Nat.le_of_eq eD) ⟨Nat.zero_le _, [], 0, .nil, by rw [← eD]; exact Heap.get?_push_size _ rfl⟩
  have lt2 : ∀ b ∈ fp, b < s2.heap.objs.size := fun b hb => let ⟨o, e, _⟩ := T.obj _ _ st2 b hb; Heap.lt_size e
  have f3 : ∀ b ∈ fp, FpOk X pins (upd H2 D (.lst [])) b ∧ b < s3.heap.objs.size := fun b hb => by
    refine ⟨⟨?_, (f2 b hb).2⟩, by rw [h3, Heap.size_push]; exact Nat.lt_succ_of_lt (lt2 b hb)⟩
    rw [upd_ne (by rw [← eD]; exact Nat.ne_of_lt (lt2 b hb))]
    exact (f2 b hb).1
  have st3 : tn 0 s3.heap := T.keep _ _ _ st2 fun b _ o e => by rw [h3]; exact Heap.get?_push_of_some _ e
  have I4 := block_start I3 ok hN f3
  obtain ⟨pg, pt, pc⟩ := hq s3 (upd H2 D (.lst [])) s3.heap.objs.size (cellsFrom (s3.heap.objs.size + 1) scope.names (cloFrom X.env.cells scope.names [])) fp
  have pe := he s3 (upd H2 D (.lst [])) s3.heap.objs.size (cellsFrom (s3.heap.objs.size + 1) scope.names (cloFrom X.env.cells scope.names [])) fp
  unfold Blk at pg pt pc pe
  show codeAny _ _ (.compStart (lcE elt ((q :: cs).map Cl.py) scope pos) 0 (.ref a) (.ref D) (compEnvC scope (cellsFrom (s3.heap.objs.size + 1) scope.names (cloFrom X.env.cells scope.names [])) s3.heap.objs.size X.env)) (compPost (model X.prog X.w) X.A X.xe use Qf (.ref D) s3.heap.objs.size) { s3 with heap := pushCells (s3.heap.push { cls := .type "dict", data := .dict #[] }) scope.names }
  have n3 : ∀ b ∈ fp, (upd H2 D (.lst [])) b = none := fun b hb => (f3 b hb).1.1
  generalize ec : compEnvC scope (cellsFrom (s3.heap.objs.size + 1) scope.names (cloFrom X.env.cells scope.names [])) s3.heap.objs.size X.env = ce at I4 pg pt pc pe ⊢
  have cl : ce.locals = s3.heap.objs.size := by subst ec; rfl
  generalize eH : upd H2 D (.lst []) = H3 at I3 I4 pg pt pc pe w0 n3 f3
  generalize e4 : ({ s3 with heap := pushCells (s3.heap.push { cls := .type "dict", data := .dict #[] }) scope.names } : Shared) = s4 at I4 ⊢
  have st4 : tn 0 s4.heap := T.keep _ _ _ st3 fun b _ o e => by rw [← e4]; exact pushCells_keeps _ _ _ _ (Heap.get?_push_of_some _ e)
  rw [← hv] at I4
  have yx : (X.blk s3 H3 scope ce fp).xe = fun _ _ => False := rfl
  have fo : ∀ {σ' : L2.St} {H' : Hp} {s' : Shared}, L2.Inv (X.blk s3 H3 scope ce fp) [] σ' H' s' → (∀ b ∈ fp, H' b = none) → ∀ b ∈ fp, FpOk (X.blk s3 H3 scope ce fp) [] H' b := by
    intro σ' H' s' I' hn b hb
    exact ⟨hn b hb, (I'.ok.exf b hb).1, I'.ok.exfs b hb, .inl hb, fun x c e => (I'.ok.exf b hb).2 x c e, fun p hp => absurd (show p ∈ ([] : List (Addr × Obj)) ++ [] from hp) (by simp)⟩
  have loop : codeAny (model X.prog X.w) X.A (.compLoop (lcE elt ((q :: cs).map Cl.py) scope pos) 0 (.ref a) (.ref D) ce) (compPost (model X.prog X.w) X.A X.xe use Qf (.ref D) s3.heap.objs.size) s4 := by
    refine loop_at (i := 0) (t := q.tg) (iter := q.iter) (ifs := q.ifs) rfl (async0 (i := 0) (cs := q :: cs) rfl 1) (fun n s' => ∃ i H', L2.Inv (X.blk s3 H3 scope ce fp) [] (wipe σ q.vs) H' s' ∧ tn i s'.heap ∧ (∀ b ∈ fp, H' b = none) ∧ W i n H') ?_ m0 ⟨0, H3, I4, st4, n3, w0⟩
    rintro n s5 ⟨i, H5, I5, st5, n5, w5⟩
    rcases turn i n H5 w5 with ⟨stop, q5⟩ | ⟨go, N1, hN1, step⟩
    · refine thnF (T.done (X.blk s3 H3 scope ce fp) rfl rfl rfl hc i [] s5 _ H5 (fun _ _ => False) I5 (fo I5 n5) st5 stop) fun r s6 ⟨hr, I6⟩ => ?_
      subst hr
      have I7 : L2.Inv X pins σ H5 s6 := I3.call' (ch := fp) I6.os I6.base I6.hok I6.bare fun b hb => let z := (f3 b hb).1; ⟨z.2.2.2.1, z.2.1, z.2.2.2.2.1, z.2.2.2.2.2⟩
      have nC : H5 s3.heap.objs.size = none := by rw [← cl]; exact I6.free
      obtain ⟨m, hm, _⟩ := I6.loc
      have hm : s6.heap.Ns ce.locals m := hm
      exact back D _ s6 m H5 I7 q5 (by rw [cl] at hm; exact hm) (I3.fpOk (Nat.le_refl _) nC)
    · refine thnF (T.item (X.blk s3 H3 scope ce fp) rfl rfl rfl hc i [] s5 _ H5 (fun _ _ => False) I5 (fo I5 n5) st5 go) fun r s6 ⟨u, hr, k6⟩ => ?_
      subst hr
      refine thnF k6 fun _ s7 ⟨x, H7, I7, r7, y7, st7, n7⟩ => ?_
      have I7' := I7.pinned (fo I7 n7) (T.obj _ _ st7)
      have rg := pg.run _ s7 _ H7 x u _ I7' r7 (step x H7 y7)
      refine thnF rg fun _ s8 ⟨σ8, H8, I8, hw8, q8⟩ => ?_
      have rt := pt.run _ s8 σ8 H8 _ I8 q8
      refine thnF rt fun b s9 ⟨H9, I9, q9⟩ => ?_
      have fin : ∀ {vs' : List Nat} {s' : Shared} {H' : Hp}, (∀ i ∈ vs', i ∈ q.vs) → L2.Inv (X.blk s3 H3 scope ce fp) ([] ++ pinsAt fp s7.heap) (wipe σ8 vs') H' s' → N1 H' → ∃ m, m < n ∧ ∃ i H', L2.Inv (X.blk s3 H3 scope ce fp) [] (wipe σ q.vs) H' s' ∧ tn i s'.heap ∧ (∀ b ∈ fp, H' b = none) ∧ W i m H' := fun {vs' s' H'} hvs I' nx => by
        obtain ⟨m', hm, w'⟩ := hN1 H' nx
        obtain ⟨l1, l2⟩ := wipe_more hw8 hvs
        have pin' : ∀ b ∈ fp, ∀ o, s7.heap.get? b = some o → s'.heap.get? b = some o ∧ H' b = none := fun b hb o e => by
          obtain ⟨z1, z2, _⟩ := I'.pin (b, o) (List.mem_append_right _ (List.mem_append_right _ (mem_pinsAt hb e)))
          exact ⟨z1, z2⟩
        refine ⟨m', hm, i + 1, H', (I'.unpinned (pins := [])).weak l1 l2, T.keep _ _ _ st7 fun b hb o e => (pin' b hb o e).1, fun b hb => ?_, w'⟩
        obtain ⟨o, e, _⟩ := T.obj _ _ st7 b hb
        exact (pin' b hb o e).2
      cases b with
      | false => exact fin (vs' := []) (fun _ z => by cases z) I9 q9
      | true =>
        refine thnF (out_ok (Y := (X.blk s3 H3 scope ce fp)) hc yx pe cs 1 rfl pc hn.2 _ s9 σ8 H9 N1 I9 q9) fun _ s10 ⟨H10, I10, nx⟩ => ?_
        exact fin hn.1 I10 nx
  exact codeAny_compStart_list loop (T.self X.A 0 _ _ _ st4 loop)
/-- as a value -/
theorem pe_lcN {elt : Expr} {q : Cl} {cs : List Cl} {scope : Scope} {own : List (Str × Nat)} {pos : Pos} {te : TE}
    (hc : X.calm = true) (hN : X.N.Nodup) (hi : PI X q.tg q.iter q.wi) (ok : BlkOk X.N X.env.scope scope own) (hv : q.vs = own.map (·.2)) (hf : ∀ x, foldedSetIterable q.iter X.env x = pure x) (hn : Nest (q :: cs))
    (hq : ∀ s H C cl fp, PG (Blk X s H scope C cl fp) q.tg q.g ∧ PTs (Blk X s H scope C cl fp) q.ifs q.tt ∧ ∀ z ∈ cs, ClOk (Blk X s H scope C cl fp) z) (he : ∀ s H C cl fp, PE (Blk X s H scope C cl fp) elt te) :
    PE X (.ListComp elt ((q :: cs).map Cl.py) scope pos) (tLcN te q cs) := by
  refine ⟨fun pins s σ H Q I h => ?_⟩
  rw [eval_ListComp]
  refine lcN_core hc hN I hi ok hv hf hn hq he h fun D C s' m H' I' z hm f => ⟨m, hm, fun h'' sb => ?_⟩
  obtain ⟨g0, g1, g2, g3, g4, g5⟩ := f
  exact ⟨.ref D, H', I'.turned (t' := s'.toks) (fun b o hb e => (sb.2 b hb).trans e) g0 g1 g3 g4 g5, rfl, z⟩
end
end Dm

/-! The D machine: comprehensions of any number of clauses, by data. -/
namespace Dm
open PySem L2 PyProof.Rows
structure SC where
  tg : Expr
  iter : Expr
  ifs : List Expr
  dc : DC
def SC.cl (c : Cc) (q : SC) : Cl := ⟨q.tg, q.iter, q.ifs, tI c q.dc.mi, tG c q.dc.t, tBo c q.dc.mt, q.dc.vs⟩
def DNest : List SC → Prop
  | [] => True
  | q :: r => (∀ i ∈ q.dc.t.ids, i ∈ q.dc.vs) ∧ (match r with | [] => True | z :: _ => ∀ i ∈ z.dc.vs, i ∈ q.dc.vs) ∧ DNest r
def dvs : List SC → List Nat
  | [] => []
  | q :: _ => q.dc.vs
/-- all but the list that grows -/
def StepD (A : Addr) (w : Wm) (H : Hp) (w' : Wm) (H' : Hp) : Prop := ∀ a o, a ≠ A → H a = some o → (w a = .no ∨ w a = .out) → H' a = some o ∧ w' a = w a
section
variable {c : Cc} {w w' : Wm} {H H' : Hp} {rs : List V} {s : St} {σ : L2.St} {A : Addr}
theorem StepD.refl : StepD A w H w H := fun _ _ _ h _ => ⟨h, rfl⟩
theorem Step.d (h : Step w H w' H') : StepD A w H w' H' := fun a o _ h1 k => h a o h1 k
theorem StepD.trans {w2 : Wm} {H2 : Hp} (a : StepD A w H w' H') (b : StepD A w' H' w2 H2) : StepD A w H w2 H2 := fun x o n h k => by
  obtain ⟨h1, k1⟩ := a x o n h k
  obtain ⟨h2, k2⟩ := b x o n h1 (by rw [k1]; exact k)
  exact ⟨h2, k2.trans k1⟩
theorem StepD.n (h : StepD A w H w' H') (hw : w A = .out) : StepN w H w' H' := fun a o h1 k => by
  have ne : a ≠ A := fun z => by rw [z, hw] at k; cases k
  obtain ⟨z1, z2⟩ := h a o ne h1 (.inl k)
  exact ⟨z1, z2.trans k⟩
theorem StepD.grow {o' : HO} : StepD A w H w (upd H A o') := fun a o ne h _ => ⟨by rw [upd_ne ne]; exact h, rfl⟩
theorem wipeL_two {L : List Slot} {vs vs' : List Nat} (h : ∀ i ∈ vs', i ∈ vs) : wipeL (wipeL L vs') vs = wipeL L vs := by
  refine List.ext_getElem? fun i => ?_
  by_cases hi : i ∈ vs
  · by_cases hl : i < L.length
    · rw [wipeL_in hi hl, wipeL_in hi (by rw [wipeL_length]; exact hl)]
    · rw [List.getElem?_eq_none (by rw [wipeL_length, wipeL_length]; omega), List.getElem?_eq_none (by rw [wipeL_length]; omega)]
  · rw [wipeL_out hi, wipeL_out hi, wipeL_out fun z => hi (h i z)]
theorem wipe_two {σ : L2.St} {vs vs' : List Nat} (h : ∀ i ∈ vs', i ∈ vs) : wipe (wipe σ vs') vs = wipe σ vs := by
  refine List.ext_getElem? fun i => ?_
  by_cases hi : i ∈ vs
  · by_cases hl : i < σ.length
    · rw [wipe_in' hi hl, wipe_in' hi (by rw [wipe_length]; exact hl)]
    · rw [List.getElem?_eq_none (by rw [wipe_length, wipe_length]; omega), List.getElem?_eq_none (by rw [wipe_length]; omega)]
  · rw [wipe_out' hi, wipe_out' hi, wipe_out' fun z => hi (h i z)]
theorem Rel.rewipe {s1 : St} {σ4 : L2.St} {vs vs' : List Nat} (R : Rel c w rs { s1 with L := wipeL s1.L vs' } (L2.wipe σ4 vs') H) (h : ∀ i ∈ vs', i ∈ vs) (e : L2.wipe σ4 vs = L2.wipe σ vs) : Rel c w rs { s1 with L := wipeL s1.L vs } (L2.wipe σ vs) H := by
  have := R.wipe vs
  rw [wipe_two h, e] at this
  have e2 : ({ ({ s1 with L := wipeL s1.L vs' } : St) with L := wipeL ({ s1 with L := wipeL s1.L vs' } : St).L vs } : St) = { s1 with L := wipeL s1.L vs } := by
    show St.mk (wipeL (wipeL s1.L vs') vs) s1.S = _
    rw [wipeL_two h]
  rw [e2] at this
  exact this
/-- what stands behind the emission of ys -/
def Ends1 (c : Cc) (A : Addr) (w : Wm) (rs : List V) (H : Hp) (vs : List Nat) (acc : List V) (σ : L2.St) (s' : St) (ys : List D) (Nx : Hp → Prop) : Prop :=
  ∀ H' w' ac, Rel c w' rs { s' with L := wipeL s'.L vs } (wipe σ vs) H' → H' A = some (.lst (acc ++ ac)) → w' A = .out → IsAll c w' H' ac ys → StepD A w H w' H' → Nx H'
/-- a loop's turns -/
theorem i_loop {me : M D} {q : SC} {r : List SC} (hid : ∀ i ∈ q.dc.t.ids, i ∈ q.dc.vs) (hvs : ∀ i ∈ dvs r, i ∈ q.dc.vs) {J : L2.It} {items ys : List D} {s1 s2 : St} {acc : List V} {Nx : Hp → Prop}
    (ih : ∀ {w : Wm} {H : Hp} {s s' : St} {σ : L2.St} {acc : List V} {ys : List D} {Nx : Hp → Prop}, Rel c w rs s σ H → H A = some (.lst acc) → w A = .out → denDC me (r.map (·.dc)) s = some (ys, s') → acc.length + ys.length ≤ sizeLine → Ends1 c A w rs H (dvs r) acc σ s' ys Nx → tOut (tE c me) A (r.map (SC.cl c)) σ H Nx)
    (R : Rel c w rs s1 σ H) (hA : H A = some (.lst acc)) (hw : w A = .out) (wd : WalkD c J items w H) (e : runItems q.dc.vs q.dc.t (bnd q.dc.mt fun b => if b then denDC me (r.map (·.dc)) else ret []) items s1 = some (ys, s2)) (hz : acc.length + ys.length ≤ sizeLine) (k : Ends1 c A w rs H q.dc.vs acc σ s2 ys Nx) :
    ∃ W : Nat → Nat → Hp → Prop, (∃ m, W 0 m H) ∧ ∀ j m H, W j m H → (J.stop j H ∧ Nx H) ∨ (J.go j H ∧ ∃ N1 : Hp → Prop, (∀ H', N1 H' → ∃ m', m' < m ∧ W (j + 1) m' H') ∧ ∀ x H', J.yld j H x H' → tG c q.dc.t x (wipe σ q.dc.vs) H' fun σ3 H5 => wipe σ3 q.dc.vs = wipe σ q.dc.vs ∧ tBo c q.dc.mt σ3 H5 fun b H6 => if b = true then tOut (tE c me) A (r.map (SC.cl c)) σ3 H6 N1 else N1 H6) := by
  let body : M (List D) := bnd q.dc.mt fun b => if b then denDC me (r.map (·.dc)) else ret []
  let Wp : Nat → Hp → Prop := fun j H' => j ≤ items.length ∧ ∃ w2 sI ac as, Rel c w2 rs { sI with L := wipeL sI.L q.dc.vs } (wipe σ q.dc.vs) H' ∧ H' A = some (.lst (acc ++ ac)) ∧ w2 A = .out ∧ IsAll c w2 H' ac as ∧ StepD A w H w2 H' ∧ ∃ zs, runItems q.dc.vs q.dc.t body (items.drop j) sI = some (zs, s2) ∧ as ++ zs = ys
  refine ⟨fun j m H' => m = items.length - j ∧ Wp j H', ⟨items.length, by simp, Nat.zero_le _, w, s1, [], [], R.wipe _, by simpa using hA, hw, .nil, StepD.refl, ys, by simpa using e, rfl⟩, ?_⟩
  rintro j m H2 ⟨rfl, hj, w2, sI, ac, as, R2, hac, hw2, ra, st2, zs, ez, ed⟩
  obtain ⟨wstop, wgo⟩ := wd w2 H2 (st2.n hw)
  by_cases hlt : j < items.length
  · refine .inr ?_
    have eg : items[j]? = some items[j] := by simp [hlt]
    obtain ⟨g1, g2⟩ := wgo j _ eg
    refine ⟨g1, Wp (j + 1), fun H' hW => ⟨items.length - (j + 1), by omega, rfl, hW⟩, fun x H3 y => ?_⟩
    obtain ⟨w3, sm3, q3⟩ := g2 x H3 y
    rw [List.drop_eq_getElem_cons hlt, runItems] at ez
    obtain ⟨_, t1, ez1, ez⟩ := bnd_some.mp ez
    cases ez1
    obtain ⟨_, t2, ez2, ez⟩ := bnd_some.mp ez
    obtain ⟨ys3, t3, ez3, ez⟩ := bnd_some.mp ez
    obtain ⟨zs', t4, ez4, ez⟩ := bnd_some.mp ez
    cases ret_some.mp ez
    obtain ⟨b, t5, eb, ey⟩ := bnd_some.mp ez3
    have R3 := R2.ext sm3
    have acc3 := (sm3 _ _ hac).1
    have out3 : w3 A = .out := (sm3 _ _ hac).2.trans hw2
    refine ⟨w3, rs, _, _, t2, R3, q3, ez2, fun σ4 R4 ag => ⟨?_, ?_⟩⟩
    · rw [wipe_of_agree ag hid, wipe_wipe]
    have ew : wipe σ4 q.dc.vs = wipe σ q.dc.vs := by rw [wipe_of_agree ag hid, wipe_wipe]
    refine ⟨w3, rs, t2, b, t5, R4, eb, fun H5 w5 R5 st5 => ?_⟩
    have so5 : Step w2 H2 w5 H5 := sm3.step.trans st5
    have hA5 : H5 A = some (.lst (acc ++ ac)) ∧ w5 A = .out := by
      have := st5 A _ acc3 (.inr out3)
      exact ⟨this.1, this.2.trans out3⟩
    dsimp only
    split at ey
    · rename_i hb
      rw [if_pos hb]
      refine ih R5 hA5.1 hA5.2 ey ?_ fun H6 w6 ac6 R6 h6 o6 ra6 st6 => ?_
      · have := ra.length
        have h2 : (as ++ (ys3 ++ zs')).length = ys.length := by rw [ed]
        rw [List.length_append, List.length_append] at h2
        rw [List.length_append]
        omega
      · refine ⟨hlt, w6, t3, ac ++ ac6, as ++ ys3, R6.rewipe hvs ew, by rw [← List.append_assoc]; exact h6, o6, ?_, (st2.trans so5.d).trans st6, zs', ez4, by rw [← ed]; simp⟩
        exact ((ra.step so5).stepN (st6.n hA5.2)).append ra6
    · rename_i hb
      rw [if_neg hb]
      cases ret_some.mp ey
      have R6 := R5.wipe q.dc.vs
      rw [ew] at R6
      exact ⟨hlt, w5, _, ac, as, R6, hA5.1, hA5.2, ra.step so5, st2.trans so5.d, zs', ez4, by rw [← ed]; rfl⟩
  · have ej : j = items.length := by omega
    subst ej
    refine .inl ⟨wstop, ?_⟩
    rw [List.drop_length, runItems] at ez
    cases ret_some.mp ez
    rw [List.append_nil] at ed
    subst ed
    exact k H2 w2 ac R2 hac hw2 ra st2
theorem i_out {me : M D} : ∀ (cs : List SC), DNest cs → ∀ {w : Wm} {H : Hp} {s s' : St} {σ : L2.St} {acc : List V} {ys : List D} {Nx : Hp → Prop}, Rel c w rs s σ H → H A = some (.lst acc) → w A = .out → denDC me (cs.map (·.dc)) s = some (ys, s') → acc.length + ys.length ≤ sizeLine →
    Ends1 c A w rs H (dvs cs) acc σ s' ys Nx → tOut (tE c me) A (cs.map (SC.cl c)) σ H Nx
  | [], _, w, H, s, s', σ, acc, ys, Nx, R, hA, hw, e, hz, k => by
    rw [List.map_nil, denDC] at e
    obtain ⟨d, s1, e1, e2⟩ := bnd_some.mp e
    cases ret_some.mp e2
    refine ⟨w, rs, s, d, _, R, e1, fun v H1 w1 R1 q st => ?_⟩
    have hA1 := st A _ hA (.inr hw)
    have o1 : w1 A = .out := hA1.2.trans hw
    refine ⟨acc, hA1.1, by simp at hz; omega, ?_⟩
    refine k _ w1 [v] (R1.grow o1) upd_same o1 (.cons (q.stepN (StepN.grow o1)) .nil) (st.d.trans StepD.grow)
  | q :: cs, hn, w, H, s, s', σ, acc, ys, Nx, R, hA, hw, e, hz, k => by
    rw [List.map_cons, denDC] at e
    obtain ⟨items, s1, e1, e2⟩ := bnd_some.mp e
    refine ⟨w, rs, s, items, s1, R, e1, fun J H1 w1 R1 wd st1 => ?_⟩
    have hA1 := st1 A _ hA (.inr hw)
    have hvs : ∀ i ∈ dvs cs, i ∈ q.dc.vs := by
      cases cs with
      | nil => intro i hi; cases hi
      | cons z cs => exact hn.2.1
    exact i_loop hn.1 hvs (fun R hA hw e hz k => i_out cs hn.2.2 R hA hw e hz k) R1 hA1.1 (hA1.2.trans hw) wd e2 hz fun H' w' ac R' h' o' ra st' => k H' w' ac R' h' o' ra (st1.d.trans st')
theorem i_compN {me : M D} {q : SC} {cs : List SC} (hn : DNest (q :: cs)) :
    ∀ σ H Q, tE c (bnd q.dc.mi fun items => inScope q.dc.vs (runItems q.dc.vs q.dc.t (bnd q.dc.mt fun b => if b then denDC me (cs.map (·.dc)) else ret []) items)) σ H Q → tLcN (tE c me) (q.cl c) (cs.map (SC.cl c)) σ H Q := fun σ H Q ⟨w, rs, s, d, s', R, e, k⟩ => by
  obtain ⟨items, s1, e1, e2⟩ := bnd_some.mp e
  unfold inScope at e2
  split at e2
  · rename_i ds s2 e3
    split at e2
    · rename_i hz
      cases e2
      refine ⟨w, rs, s, items, s1, R, e1, fun J H1 w1 R1 wd st1 A hA => ?_⟩
      have hvs : ∀ i ∈ dvs cs, i ∈ q.dc.vs := by
        cases cs with
        | nil => intro i hi; cases hi
        | cons z cs => exact hn.2.1
      have sm : Same2 w1 H1 (wout w1 A) (upd H1 A (.lst [])) := Same2.wout hA
      refine i_loop (A := A) hn.1 hvs (fun R hA hw e hz k => i_out cs hn.2.2 R hA hw e hz k) (R1.ext sm) upd_same wout_same (wd.stepN sm.step.n) e3 (by simpa using hz) fun H2 w2 ac R2 hac o2 ra st2 => ?_
      rw [List.nil_append] at hac
      have dn : StepN w2 H2 (wnew w2 A) H2 := StepN.done o2
      have st3 : Step w1 H1 (wnew w2 A) H2 := fun a o h kk => by
        have ne : a ≠ A := ne_of_none h hA
        obtain ⟨z1, z2⟩ := sm a o h
        obtain ⟨z3, z4⟩ := st2 a o ne z1 (by rw [z2]; exact kk)
        refine ⟨z3, ?_⟩
        unfold wnew
        rw [if_neg ne]
        exact z4.trans z2
      exact k _ H2 (wnew w2 A) (R1.back (R2.done o2) st3) (.lst ⟨by unfold wnew; rw [if_pos rfl], hac⟩ (ra.stepN dn)) (st1.trans st3)
    · cases e2
  · cases e2
end
end Dm

/-! The D machine: calls; all expressions. -/
namespace Dm
open PySem L2 PyProof.Rows

def row : List Nat → Ow := fun p => .res p
def CellsOk (c : Cc) (w : Wm) (rs : List V) (S : List OD) (H : Hp) : Prop := ∀ (j : Nat) (o : OD), S[j]? = some o → ∃ v, rs[j]? = some v ∧ IsO c w H (cow j) v o
def ArgOk (c : Cc) (w : Wm) (rs : List V) (H : Hp) (v : V) : Slot → Prop
  | .val d => Is c w H v d
  | .ref j => rs[j]? = some v
  | _ => False
inductive ArgsOk (c : Cc) (w : Wm) (rs : List V) (H : Hp) : List V → List Slot → Prop
  | nil : ArgsOk c w rs H [] []
  | cons {v : V} {vs : List V} {x : Slot} {xs : List Slot} : ArgOk c w rs H v x → ArgsOk c w rs H vs xs → ArgsOk c w rs H (v :: vs) (x :: xs)
section
variable {X : Cx} {c : Cc} {e : Expr} {es : List Expr} {w w' : Wm} {rs : List V} {s : St} {σ : L2.St} {H H' : Hp}
theorem ArgOk.stepN {v : V} {x : Slot} (st : StepN w H w' H') (h : ArgOk c w rs H v x) : ArgOk c w' rs H' v x := by
  cases x with
  | val d => exact Is.stepN st h
  | ref j => exact h
  | no => exact h
  | own => exact h
  | pin => exact h
theorem ArgsOk.stepN (st : StepN w H w' H') : ∀ {vs : List V} {xs : List Slot}, ArgsOk c w rs H vs xs → ArgsOk c w' rs H' vs xs
  | _, _, .nil => .nil
  | _, _, .cons h r => .cons (h.stepN st) (ArgsOk.stepN st r)
theorem ArgsOk.length : ∀ {vs : List V} {xs : List Slot}, ArgsOk c w rs H vs xs → vs.length = xs.length
  | _, _, .nil => rfl
  | _, _, .cons _ r => by rw [List.length_cons, List.length_cons, ArgsOk.length r]
/-- a def's promise -/
def spD (c : Cc) (n : Nat) (call : CallF) (f : Nat) : Sp := fun vs H Q _ => ∃ w rs S sl o S', sl.length = n ∧ ArgsOk c w rs H vs sl ∧ CellsOk c w rs S H ∧ (∀ a i p, w a ≠ .slot i p) ∧ call f sl S = some (o, S') ∧
  ∀ v H' w', CellsOk c w' rs S' H' → IsO c w' H' row v o → Step w H w' H' → Q v H'
/-- the callee's view -/
def wcall (w : Wm) : Wm := fun a => match w a with | .slot _ _ => .out | .res _ => .out | x => x
/-- behind the call -/
def wback (w wx : Wm) : Wm := fun a => match wx a with | .out => w a | .slot _ _ => .no | .res _ => .no | x => x
theorem wcall_no {a : Addr} (h : w a = .no) : wcall w a = .no := by unfold wcall; rw [h]
theorem step_call : Step w H (wcall w) H := fun a o h k => ⟨h, by
  unfold wcall
  rcases k with k | k <;> rw [k]⟩
theorem Rel.cells (R : Rel c w rs s σ H) : CellsOk c (wcall w) rs s.S H := fun j o e => by
  obtain ⟨v, e1, q⟩ := R.st j o e
  exact ⟨v, e1, q.keepN step_call.n fun a o p h k => ⟨h, by unfold wcall; rw [k]; rfl⟩⟩
theorem wback_step {wx : Wm} (st : Step (wcall w) H wx H') : Step w H (wback w wx) H' := fun a o h k => by
  have z := st a o h
  unfold wcall at z
  unfold wback
  rcases k with k | k
  · rw [k] at z
    obtain ⟨z1, z2⟩ := z (.inl rfl)
    rw [z2, k]
    exact ⟨z1, rfl⟩
  · rw [k] at z
    obtain ⟨z1, z2⟩ := z (.inr rfl)
    rw [z2, k]
    exact ⟨z1, rfl⟩
theorem wback_no {wx : Wm} {a : Addr} (h : wx a = .no) : wback w wx a = .no := by unfold wback; rw [h]
theorem wback_res {wx : Wm} {a : Addr} {p : List Nat} (h : wx a = row p) : wback w wx a = .no := by unfold wback; rw [h]; rfl
/-- a call's own addresses: the caller's slots stay -/
theorem Rel.call {wx : Wm} {S' : List OD} (R : Rel c w rs s σ H) (st : Step (wcall w) H wx H') (cs : CellsOk c wx rs S' H') : Rel c (wback w wx) rs { s with S := S' } σ H' := by
  have sb := wback_step st
  refine ⟨R.len, fun i y x e1 e2 => ?_, fun j o e => ?_⟩
  · have q := R.sl i y x e1 e2
    cases y with
    | no => trivial
    | val d => obtain ⟨v, e, q⟩ := q; exact ⟨v, e, q.step sb⟩
    | own o =>
      obtain ⟨v, e, q⟩ := q
      refine ⟨v, e, q.keep sb fun a o p h k => ?_⟩
      have z := st a o h
      unfold wcall at z
      rw [k] at z
      obtain ⟨z1, z2⟩ := z (.inr rfl)
      exact ⟨z1, by unfold wback; rw [z2]; rfl⟩
    | ref j => exact q
    | pin d j => obtain ⟨v, e, e', q⟩ := q; exact ⟨v, e, e', q.step sb⟩
  · obtain ⟨v, e1, q⟩ := cs j o e
    exact ⟨v, e1, q.keepN (fun a o h k => ⟨h, wback_no k⟩) fun a o p h k => ⟨h, by unfold wback; rw [k]; rfl⟩⟩
theorem Rel.callG {wx w' : Wm} {S' : List OD} (R : Rel c w rs s σ H) (st : Step (wcall w) H wx H') (cs : CellsOk c wx rs S' H') (h1 : ∀ a, wx a = .no → w' a = .no) (h2 : ∀ a, wx a = .out → w' a = w a) (h3 : ∀ a j p, wx a = .cell j p → w' a = .cell j p) :
    Rel c w' rs { s with S := S' } σ H' ∧ Step w H w' H' := by
  have sb : Step w H w' H' := fun a o h k => by
    have z := st a o h
    unfold wcall at z
    rcases k with k | k
    · rw [k] at z
      obtain ⟨z1, z2⟩ := z (.inl rfl)
      exact ⟨z1, by rw [h1 a z2, k]⟩
    · rw [k] at z
      obtain ⟨z1, z2⟩ := z (.inr rfl)
      exact ⟨z1, h2 a z2⟩
  refine ⟨⟨R.len, fun i y x e1 e2 => ?_, fun j o e => ?_⟩, sb⟩
  · have q := R.sl i y x e1 e2
    cases y with
    | no => trivial
    | val d => obtain ⟨v, e, q⟩ := q; exact ⟨v, e, q.step sb⟩
    | own o =>
      obtain ⟨v, e, q⟩ := q
      refine ⟨v, e, q.keep sb fun a o p h k => ?_⟩
      have z := st a o h
      unfold wcall at z
      rw [k] at z
      obtain ⟨z1, z2⟩ := z (.inr rfl)
      exact ⟨z1, h2 a z2⟩
    | ref j => exact q
    | pin d j => obtain ⟨v, e, e', q⟩ := q; exact ⟨v, e, e', q.step sb⟩
  · obtain ⟨v, e1, q⟩ := cs j o e
    exact ⟨v, e1, q.keepN (fun a o h k => ⟨h, h1 a k⟩) fun a o p h k => ⟨h, by rw [k]; exact h3 a _ _ k⟩⟩
def tAs (c : Cc) (m : M (List Slot)) : TA := fun σ H Q => ∃ w rs s sl s', Rel c w rs s σ H ∧ m s = some (sl, s') ∧ ∀ vs H' w', Rel c w' rs s' σ H' → ArgsOk c w' rs H' vs sl → Step w H w' H' → Q vs H'
theorem i_call {n f : Nat} {call : CallF} {m : M (List Slot)} {E : XK} {Γ : Env} (hΓ : Γ.call = call) (hn : ∀ s sl s', m s = some (sl, s') → sl.length = n) :
    ∀ σ H Q, tE c (bnd m fun sl => bnd (doCall Γ f sl) fun o => ofO o.leafD) σ H Q → tCall (spD c n call f) [] E (tAs c m) σ H Q := fun σ H Q ⟨w, rs, s, d, s', R, e, k⟩ => by
  subst hΓ
  obtain ⟨sl, s1, e1, e⟩ := bnd_some.mp e
  obtain ⟨o, s2, e2, e⟩ := bnd_some.mp e
  obtain ⟨z, ez, ez'⟩ := ofO_some.mp e
  injection ez' with z1 z2; subst z1 z2
  unfold doCall at e2
  split at e2
  · rename_i o' S' ec
    cases e2
    refine ⟨w, rs, s, sl, s1, R, e1, fun vs H1 w1 R1 q1 st1 => ?_⟩
    dsimp only
    rw [List.append_nil]
    refine ⟨wcall w1, rs, s1.S, sl, o, S', hn _ _ _ e1, q1.stepN step_call.n, R1.cells, fun a i p z => ?_, ec, fun v H2 wx cs q st => ?_⟩
    · unfold wcall at z
      split at z <;> first | cases z | (rename_i h1 h2; exact h1 i p z)
    · rw [leafD_eq] at ez
      cases ez
      have stb : Step w1 H1 (wback w1 wx) H2 := wback_step st
      exact k v H2 _ (R1.call st cs) (q.freeG (fun a o h z => ⟨h, wback_no z⟩) fun a o p h z => ⟨h, wback_res z⟩) (st1.trans stb)
  · cases e2
theorem d_anil : PA X [] (tAs c (ret [])) := pimpA pa_nil fun σ H Q ⟨w, rs, s, d, s', R, e, k⟩ => by
  cases ret_some.mp e
  exact k [] H w R .nil (Step.refl _ _)
theorem i_aval {m : M D} {ms : M (List Slot)} : ∀ σ H Q, tAs c (bnd m fun d => bnd ms fun sl => ret (.val d :: sl)) σ H Q → tCons (tE c m) (tAs c ms) σ H Q := fun σ H Q ⟨w, rs, s, d, s', R, e, k⟩ => by
  obtain ⟨d1, s1, e1, e⟩ := bnd_some.mp e
  obtain ⟨d2, s2, e2, e⟩ := bnd_some.mp e
  cases ret_some.mp e
  refine ⟨w, rs, s, d1, s1, R, e1, fun v1 H1 w1 R1 q1 st1 => ?_⟩
  refine ⟨w1, rs, s1, d2, _, R1, e2, fun v2 H2 w2 R2 q2 st2 => ?_⟩
  exact k _ H2 w2 R2 (.cons (show Is c w2 H2 v1 d1 from q1.step st2) q2) (st1.trans st2)
def shareM (i : Nat) : M Slot := fun s => match s.L[i]? with
      | some (.val d) => some (Slot.val d, s)
      | some (.ref j) => some (.ref j, s)
      | some (.pin d _) => some (.val d, s)
      | _ => none
theorem i_ashare {i : Nat} {ms : M (List Slot)} : ∀ σ H Q, tAs c (bnd (shareM i) fun x => bnd ms fun sl => ret (x :: sl)) σ H Q → tCons (tVar i) (tAs c ms) σ H Q := fun σ H Q ⟨w, rs, s, d, s', R, e, k⟩ => by
  obtain ⟨d1, s1, e1, e⟩ := bnd_some.mp e
  obtain ⟨d2, s2, e2, e⟩ := bnd_some.mp e
  cases ret_some.mp e
  unfold shareM at e1
  split at e1
  · rename_i d' ed
    cases e1
    obtain ⟨v, hv, q⟩ := R.val ed
    exact ⟨v, hv, w, rs, _, d2, _, R, e2, fun v2 H2 w2 R2 q2 st2 => k _ H2 w2 R2 (.cons (show Is c w2 H2 v _ from q.step st2) q2) st2⟩
  · rename_i j ed
    cases e1
    obtain ⟨x, hv, v, rfl, q⟩ := R.at ed
    exact ⟨v, hv, w, rs, _, d2, _, R, e2, fun v2 H2 w2 R2 q2 st2 => k _ H2 w2 R2 (.cons (show rs[j]? = some v from q) q2) st2⟩
  · rename_i d' j ed
    cases e1
    obtain ⟨x, hv, v, rfl, _, q⟩ := R.at ed
    exact ⟨v, hv, w, rs, _, d2, _, R, e2, fun v2 H2 w2 R2 q2 st2 => k _ H2 w2 R2 (.cons (show Is c w2 H2 v _ from q.step st2) q2) st2⟩
  · cases e1
/-! ### a further cell -/
/-- behind a call with a further cell, the m-th -/
def wback2 (w wy : Wm) (m : Nat) : Wm := fun a => match wy a with
  | .out => w a
  | .cell j p => if j < m then .cell j p else .no
  | _ => .no
theorem wback2_no {wy : Wm} {m : Nat} {a : Addr} (h : wy a = .no) : wback2 w wy m a = .no := by unfold wback2; rw [h]
theorem rs_take {S : List OD} (cs : CellsOk c w rs S H) {v : V} : (rs.take S.length ++ [v])[S.length]? = some v ∧ ∀ j, j < S.length → (rs.take S.length ++ [v])[j]? = rs[j]? := by
  have hl : S.length ≤ rs.length := by
    cases hS : S.length with
    | zero => exact Nat.zero_le _
    | succ k =>
      have hk : k < S.length := by omega
      obtain ⟨u, e, _⟩ := cs k S[k] (by simp [hk])
      have := (List.getElem?_eq_some_iff.mp e).1
      omega
  have ht : (rs.take S.length).length = S.length := by rw [List.length_take]; omega
  refine ⟨by rw [List.getElem?_append_right (by omega), ht]; simp, fun j hj => ?_⟩
  rw [List.getElem?_append_left (by omega), List.getElem?_take]
  simp [hj]
/-- the cells with one more -/
theorem cells_more {S : List OD} {o : OD} {v : V} (cs : CellsOk c w rs S H) (q : IsO c w H (cow S.length) v o) : CellsOk c w (rs.take S.length ++ [v]) (S ++ [o]) H := fun j o' e => by
  obtain ⟨r1, r2⟩ := rs_take (v := v) cs
  by_cases hj : j < S.length
  · rw [List.getElem?_append_left hj] at e
    obtain ⟨u, e1, q1⟩ := cs j o' e
    exact ⟨u, by rw [r2 j hj]; exact e1, q1⟩
  · rw [List.getElem?_append_right (by omega)] at e
    have : j = S.length := by
      have := (List.getElem?_eq_some_iff.mp e).1
      simp at this
      omega
    subst this
    simp at e
    subst e
    exact ⟨v, r1, q⟩
/-- the caller's own, behind it -/
theorem Rel.back2 {w2 wy : Wm} {H2 Hy : Hp} {S' : List OD} {v : V} (R : Rel c w rs s σ H) (st : ∀ a o, H a = some o → (w a = .no ∨ w a = .out ∨ ∃ i p, w a = .slot i p) → H2 a = some o ∧ w2 a = wcall w a) (sty : Step w2 H2 wy Hy) (cs0 : ∃ w3 H3 S3, S3.length = s.S.length ∧ CellsOk c w3 rs S3 H3) (cs : CellsOk c wy (rs.take s.S.length ++ [v]) S' Hy) :
    Rel c (wback2 w wy s.S.length) rs { s with S := S'.take s.S.length } σ Hy ∧ Step w H (wback2 w wy s.S.length) Hy := by
  have key : ∀ a o, H a = some o → (w a = .no ∨ w a = .out ∨ ∃ i p, w a = .slot i p) → Hy a = some o ∧ wback2 w wy s.S.length a = w a := fun a o h k => by
    obtain ⟨z1, z2⟩ := st a o h k
    unfold wcall at z2
    unfold wback2
    rcases k with k | k | ⟨i, p, k⟩
    · rw [k] at z2
      obtain ⟨y1, y2⟩ := sty a o z1 (.inl z2)
      rw [y2, z2, k]; exact ⟨y1, rfl⟩
    · rw [k] at z2
      obtain ⟨y1, y2⟩ := sty a o z1 (.inr z2)
      rw [y2, z2, k]; exact ⟨y1, rfl⟩
    · rw [k] at z2
      obtain ⟨y1, y2⟩ := sty a o z1 (.inr z2)
      rw [y2, z2, k]; exact ⟨y1, rfl⟩
  have sb : Step w H (wback2 w wy s.S.length) Hy := fun a o h k => key a o h (k.elim .inl fun z => .inr (.inl z))
  refine ⟨⟨R.len, fun i y x e1 e2 => ?_, fun j o e => ?_⟩, sb⟩
  · have q := R.sl i y x e1 e2
    cases y with
    | no => trivial
    | val d => obtain ⟨v, e, q⟩ := q; exact ⟨v, e, q.step sb⟩
    | own o =>
      obtain ⟨v, e, q⟩ := q
      exact ⟨v, e, q.keep sb fun a o p h k => key a o h (.inr (.inr ⟨i, p, k⟩))⟩
    | ref j => exact q
    | pin d j => obtain ⟨v, e, e', q⟩ := q; exact ⟨v, e, e', q.step sb⟩
  · have hj : j < s.S.length := by
      have := (List.getElem?_eq_some_iff.mp e).1
      rw [List.length_take] at this
      omega
    have e' : S'[j]? = some o := by
      rw [List.getElem?_take] at e
      simpa [hj] using e
    obtain ⟨u, e1, q⟩ := cs j o e'
    obtain ⟨w3, H3, S3, hl, c3⟩ := cs0
    have r2 := (rs_take (v := v) c3).2 j (by omega)
    rw [hl] at r2
    rw [r2] at e1
    exact ⟨u, e1, q.keepN (fun a o h k => ⟨h, wback2_no k⟩) fun a o p h k => ⟨h, by unfold wback2; rw [k]; simp [cow, hj]⟩⟩
theorem args_more {S : List OD} {v : V} (cs : CellsOk c w rs S H) : ∀ {vs : List V} {sl : List Slot}, ArgsOk c w' rs H' vs sl → refsIn S.length sl = true → ArgsOk c w' (rs.take S.length ++ [v]) H' vs sl
  | _, _, .nil, _ => .nil
  | _, x :: _, .cons h r, k => by
    unfold refsIn at k
    rw [List.all_cons, Bool.and_eq_true] at k
    refine .cons ?_ (args_more cs r k.2)
    cases x with
    | val d => exact h
    | ref j =>
      have hj : j < S.length := by simpa using k.1
      show (rs.take S.length ++ [v])[j]? = some _
      rw [(rs_take cs).2 j hj]
      exact h
    | no => exact h
    | own => exact h
    | pin => exact h
theorem i_new {ni f k : Nat} {E : XK} {m : M (List Slot)} {Γ : Env} (hn : ∀ s sl s', m s = some (sl, s') → sl.length + 1 = ni) :
    ∀ σ H Q, tE c (bnd m fun sl => make Γ k f sl) σ H Q → tMake (c.cl k) (spD c ni Γ.call f) [] E (tAs c m) σ H Q := fun σ H Q ⟨w, rs, s, d, s', R, e, kq⟩ => by
  obtain ⟨sl, s1, e1, e2⟩ := bnd_some.mp e
  unfold make at e2
  split at e2
  · rename_i hrf
    split at e2
    · rename_i S' ec
      split at e2
      · rename_i k' fs eo
        cases e2
        refine ⟨w, rs, s, sl, s1, R, e1, fun vs H1 w1 R1 q1 st1 x dx hx hdx hne => ?_⟩
        rw [List.append_nil]
        have tr : ∀ a o, H1 a = some o → a ≠ x ∧ a ≠ dx := fun a o h => ⟨ne_of_none h hx, ne_of_none h hdx⟩
        let w2 : Wm := fun a => if a = x then .cell s1.S.length [] else if a = dx then .no else wcall w1 a
        have w2x : w2 x = .cell s1.S.length [] := if_pos rfl
        have w2n : ∀ a, a ≠ x → a ≠ dx → w2 a = wcall w1 a := fun a h1 h2 => by
          show (if a = x then _ else if a = dx then _ else _) = _
          rw [if_neg h1, if_neg h2]
        have ext : ∀ a o, H1 a = some o → (upd (upd H1 dx (.own x)) x (.ins (c.cl k) dx [])) a = some o ∧ w2 a = wcall w1 a := fun a o h => by
          obtain ⟨n1, n2⟩ := tr a o h
          exact ⟨by rw [upd_ne n1, upd_ne n2]; exact h, w2n a n1 n2⟩
        have st2 : Step (wcall w1) H1 w2 (upd (upd H1 dx (.own x)) x (.ins (c.cl k) dx [])) := fun a o h _ => ext a o h
        have cs1 : CellsOk c (wcall w1) rs s1.S H1 := R1.cells
        have cs2 : CellsOk c w2 rs s1.S (upd (upd H1 dx (.own x)) x (.ins (c.cl k) dx [])) := fun j o ej => by
          obtain ⟨v, e3, q⟩ := cs1 j o ej
          exact ⟨v, e3, q.keepN st2.n fun a o p h _ => ext a o h⟩
        have newO : IsO c w2 (upd (upd H1 dx (.own x)) x (.ins (c.cl k) dx [])) (cow s1.S.length) (.ref x) (.oobj k []) := .oobj (vs := []) (dx := dx) w2x (by rw [List.zip_nil_right]; exact upd_same) (Nat.zero_le _) .nil
        refine ⟨w2, rs.take s1.S.length ++ [.ref x], s1.S ++ [.oobj k []], .ref s1.S.length :: sl, .leaf .non, S', by rw [List.length_cons]; exact hn _ _ _ e1, .cons (by show (rs.take s1.S.length ++ [V.ref x])[s1.S.length]? = some (V.ref x); exact (rs_take cs1).1) (args_more cs1 ((q1.stepN step_call.n).stepN st2.n) hrf), cells_more cs2 newO, fun a i p z => ?_, ec, fun v H' wy cs q st => ?_⟩
        · show False
          have : (if a = x then Ow.cell s1.S.length [] else if a = dx then .no else wcall w1 a) = .slot i p := z
          split at this
          · cases this
          · split at this
            · cases this
            · unfold wcall at this
              split at this <;> first | cases this | (rename_i h1 h2; exact h1 i p this)
        · cases q with
          | leaf q =>
            cases q
            obtain ⟨Rb, sb⟩ := R1.back2 (fun a o h _ => ext a o h) st ⟨_, _, s1.S, rfl, cs1⟩ cs
            obtain ⟨u, eu, qu⟩ := cs _ _ eo
            rw [(rs_take cs1).1] at eu
            cases eu
            refine ⟨rfl, kq _ _ _ Rb ?_ (st1.trans sb)⟩
            cases qu with
            | oobj h1 h2 h3 r =>
              exact .obj (by unfold wback2; rw [h1]; simp [cow]) h2 h3 (r.stepN fun a o h z => ⟨h, wback2_no z⟩)
      · cases e2
    · cases e2
  · cases e2
/-- f(g(..)): the new list of g is lent to f -/
theorem i_callT {ng f g : Nat} {E : XK} {m : M (List Slot)} {Γ : Env} (hn : ∀ s sl s', m s = some (sl, s') → sl.length = ng) :
    ∀ σ H Q, tE c (bnd m fun sl => bnd (doCall Γ g sl) fun o => lend Γ f o) σ H Q → tCall (spD c 1 Γ.call f) [] E (tCons (tCall (spD c ng Γ.call g) [] E (tAs c m)) tNil) σ H Q := fun σ H Q ⟨w, rs, s, d, s', R, e, kq⟩ => by
  obtain ⟨sl, s1, e1, e2⟩ := bnd_some.mp e
  obtain ⟨o, s2, e3, e4⟩ := bnd_some.mp e2
  unfold doCall at e3
  split at e3
  · rename_i o' S1 ec
    cases e3
    unfold lend at e4
    split at e4
    · rename_i ds
      split at e4
      · rename_i d' S' ef
        cases e4
        have ef : Γ.call f [.ref S1.length] (S1 ++ [.fl ds]) = some (.leaf d, S') := ef
        refine ⟨w, rs, s, sl, s1, R, e1, fun vs H1 w1 R1 q1 st1 => ?_⟩
        dsimp only
        rw [List.append_nil]
        refine ⟨wcall w1, rs, s1.S, sl, _, S1, hn _ _ _ e1, q1.stepN step_call.n, R1.cells, fun a i p z => ?_, ec, fun v Hx wx cs q st => ?_⟩
        · unfold wcall at z
          split at z <;> first | cases z | (rename_i h1 h2; exact h1 i p z)
        · show spD c 1 Γ.call f ([v] ++ []) Hx Q E
          rw [List.append_nil]
          let wr : Wm := fun a => match wx a with | .out => w1 a | .slot _ _ => .no | x => x
          have wrd : ∀ a, wr a = (match wx a with | .out => w1 a | .slot _ _ => .no | x => x) := fun _ => rfl
          obtain ⟨R2, sR⟩ := R1.callG (w' := wr) st cs (fun a h => by rw [wrd, h]) (fun a h => by rw [wrd, h]) (fun a j p h => by rw [wrd, h])
          let w2 : Wm := fun a => match wr a with | .res p => .cell S1.length p | .slot _ _ => .out | x => x
          have w2d : ∀ a, w2 a = (match wr a with | .res p => .cell S1.length p | .slot _ _ => .out | x => x) := fun _ => rfl
          have cR : CellsOk c wr rs S1 Hx := R2.st
          have st2N : StepN wr Hx w2 Hx := fun a o h k => ⟨h, by rw [w2d, k]⟩
          have cs2 : CellsOk c w2 rs S1 Hx := fun j o ej => by
            obtain ⟨u, e5, q5⟩ := cR j o ej
            exact ⟨u, e5, q5.keepN st2N fun a o p h k => ⟨h, by rw [w2d, k]; rfl⟩⟩
          have newO : IsO c w2 Hx (cow S1.length) v (.fl ds) := by
            cases q with
            | fl h1 h2 r =>
              refine .fl ?_ h2 ?_
              · rw [w2d, wrd, h1]; rfl
              · exact r.stepN fun a o h k => ⟨h, by rw [w2d, wrd, k]⟩
          refine ⟨w2, rs.take S1.length ++ [v], S1 ++ [.fl ds], [.ref S1.length], .leaf d, S', rfl, .cons (by show (rs.take S1.length ++ [v])[S1.length]? = some v; exact (rs_take cR).1) .nil, cells_more cs2 newO, fun a i p z => ?_, ef, fun v2 Hy wy csy qy sty => ?_⟩
          · rw [w2d] at z
            split at z <;> first | cases z | (rename_i h1 h2; exact h2 i p z)
          · obtain ⟨Rb, sb⟩ := R2.back2 (w2 := w2) (H2 := Hx) (fun a o h k => ⟨h, by
              rw [w2d]
              unfold wcall
              rcases k with k | k | ⟨i, p, k⟩ <;> rw [k]⟩) sty ⟨_, _, S1, rfl, cR⟩ csy
            cases qy with
            | leaf qy => exact kq v2 Hy _ Rb (qy.stepN fun a o h z => ⟨h, wback2_no z⟩) ((st1.trans sR).trans sb)
      · cases e4
    · cases e4
  · cases e3
end
end Dm

/-! The D machine: lists that change. -/
namespace Dm
open PySem L2 PyProof.Rows PySem.AutoSeq1
set_option maxRecDepth 8000 in
theorem ext_tup (l : Addr) (items : Array Value) (n : Nat) (b : Addr) (items2 : Array Value) (n2 : Nat) (dd : Option Addr) (sl : Array (Option Value)) (hs0 : ¬(!items.isEmpty && Builtin.List.listTooLong (items.size + items2.size)) = true) (hs1 : items.size ≤ sizeLine) (hs2 : items.size + items2.size ≤ sizeLine + 1) :
    Meets (Builtin.«list.extend» ⟨[.ref l, .ref b], []⟩) (fun _ R s => s.heap.get? l = some { cls := .type "list", dict := none, data := .seq items n, slots := #[] } ∧ s.heap.get? b = some { cls := .type "tuple", dict := dd, data := .seq items2 n2, slots := sl } ∧ R (.ok (.ret Value.none)) { s with heap := s.heap.update l (Obj.mapSeq fun x => x ++ items2), toks := s.toks }) :=
  .of_wp fun prog w A R s h => by
    obtain ⟨hp, g, d, tk, os⟩ := s; obtain ⟨hl, hb, h⟩ := h; have f1 := idx_int; have f2 := AutoSeq1.sub_tuple_tuple; have f3 := AutoSeq1.sub_list_list; have f4 := AutoSeq1.sub_tuple_list; have f5 := AutoSeq1.sub_list_tuple;
    have hz' : (items ++ items2).size ≤ sizeLine + 1 := by rw [Array.size_append]; exact hs2
    wp_walk using (wpAny_updateSeq hl rfl (hz := hs1) (_hz' := hz')), wpAny_loadPart' hl, wpAny_loadPart' hb; exact ⟨_, rfl, h⟩
section
variable {X : Cx}
def rExtT : V → List V → Hp → VK → Prop := fun x vs H Q => ∃ l b xs zs, x = .ref l ∧ vs = [.ref b] ∧ H l = some (.lst xs) ∧ H b = some (.tup zs) ∧ xs.length + zs.length ≤ sizeLine ∧ Q .non (upd H l (.lst (xs ++ zs)))
theorem mt_extT : MtM X "list.extend" rExtT := by
  intro pins s σ H x vs v us Q I rx rv h
  obtain ⟨l, b, xs, zs, rfl, rfl, hH, hB, hz, q⟩ := h
  cases rx
  obtain ⟨u, rfl, ru⟩ := rv.one
  cases ru
  obtain ⟨z, its, n, r, hl, e⟩ := I.lstM hH
  obtain ⟨its2, r2, ht, z2⟩ := I.tuple (SqT.of hB)
  obtain ⟨⟨oc, dd, od, sl⟩, e2, oc', n2, od'⟩ := ht
  simp only at oc' od'
  subst oc' od'
  have hl2 := r2.length
  have hsz : its.toArray.size + its2.toArray.size ≤ sizeLine := by rw [List.size_toArray, List.size_toArray]; omega
  have hlong : ¬ (!its.toArray.isEmpty && Builtin.List.listTooLong (its.toArray.size + its2.toArray.size)) = true := by
    rw [notLongL hsz, Bool.and_false]
    exact Bool.false_ne_true
  refine call_meets F.slot_list_extend ⟨_, e, rfl⟩ F.entry_list_extend (F.args_list_extend_2 _ _)
    (ext_tup l its.toArray n b its2.toArray n2 dd sl hlong (by rw [List.size_toArray]; omega) (by omega)) ⟨e, e2, ?_⟩
  refine ⟨.non, _, I.lset (its' := its ++ its2) hH e (by simp) (r.append r2) ?_, rfl, q⟩
  rw [List.length_append]
  omega
end
section
variable {X : Cx} {c : Cc} {e : Expr} {es : List Expr} {w w' : Wm} {rs : List V} {s s' : St} {σ : L2.St} {H H' : Hp}
/-- a list that a name owns, or a cell, is changed -/
theorem Rel.mut {j : Nat} {f : List D → Option (D × List D)} {d : D} (R : Rel c w rs s σ H) (h : mutF j f s = some (d, s')) :
    ∃ a vs ds ds', σ[j]? = some (some (.ref a)) ∧ H a = some (.lst vs) ∧ IsAll c w H vs ds ∧ f ds = some (d, ds') ∧
      ∀ vs', IsAll c w H vs' ds' → Rel c w rs s' σ (upd H a (.lst vs')) ∧ Step w H w (upd H a (.lst vs')) := by
  have gen : ∀ {a : Addr} {ow : Ow}, w a = ow → ow ≠ .no → ow ≠ .out → ∀ o, StepN w H w (upd H a o) ∧ Step w H w (upd H a o) ∧ ∀ b u, H b = some u → w b ≠ ow → (upd H a o) b = some u ∧ w b = w b := by
    intro a ow h1 h2 h3 o
    refine ⟨fun b u hb hw => ⟨?_, hw⟩, fun b u hb hw => ⟨?_, rfl⟩, fun b u hb hw => ⟨?_, rfl⟩⟩
    · rw [upd_ne]; exact hb
      intro z; rw [z, h1] at hw; exact h2 hw
    · rw [upd_ne]; exact hb
      intro z; rw [z, h1] at hw; exact hw.elim h2 h3
    · rw [upd_ne]; exact hb
      intro z; rw [z] at hw; exact hw h1
  unfold mutF at h
  split at h
  · rename_i ds e1
    split at h
    · rename_i d' ds' ef
      cases h
      obtain ⟨x, ex, v, rfl, q⟩ := R.at e1
      cases q with
      | fl h1 h2 r =>
        rename_i a vs
        refine ⟨a, vs, ds, ds', ex, h2, r, ef, fun vs' r' => ?_⟩
        obtain ⟨g1, g2, g3⟩ := gen h1 (by unfold sow; intro z; cases z) (by unfold sow; intro z; cases z) (.lst vs')
        refine ⟨⟨by simpa using R.len, fun i y x e3 e4 => ?_, fun k o e => ?_⟩, g2⟩
        · by_cases hi : i = j
          · subst hi
            simp only [List.getElem?_set_self (List.getElem?_eq_some_iff.mp e1).1] at e3
            cases e3
            rw [ex] at e4; cases e4
            exact ⟨_, rfl, .fl h1 upd_same (r'.stepN g1)⟩
          · simp only [List.getElem?_set_ne (Ne.symm hi)] at e3
            have z := R.sl i y x e3 e4
            cases y with
            | no => trivial
            | val d => obtain ⟨v, e, q⟩ := z; exact ⟨v, e, q.stepN g1⟩
            | own o =>
              obtain ⟨v, e, q⟩ := z
              refine ⟨v, e, q.keepN g1 fun b u p hb hw => g3 b u hb ?_⟩
              rw [hw]; unfold sow; intro z; injection z with z1 _; exact hi z1
            | ref k => exact z
            | pin d k => obtain ⟨v, e, e', q⟩ := z; exact ⟨v, e, e', q.stepN g1⟩
        · obtain ⟨v, e5, q⟩ := R.st k o e
          refine ⟨v, e5, q.keepN g1 fun b u p hb hw => g3 b u hb ?_⟩
          rw [hw]; unfold sow cow; intro z; cases z
    · cases h
  · rename_i k e1
    split at h
    · rename_i ds e2
      split at h
      · rename_i d' ds' ef
        cases h
        obtain ⟨x, ex, v, rfl, ev⟩ := R.at e1
        obtain ⟨v', ev', q⟩ := R.st k _ e2
        rw [ev] at ev'; cases ev'
        cases q with
        | fl h1 h2 r =>
          rename_i a vs
          refine ⟨a, vs, ds, ds', ex, h2, r, ef, fun vs' r' => ?_⟩
          obtain ⟨g1, g2, g3⟩ := gen h1 (by unfold cow; intro z; cases z) (by unfold cow; intro z; cases z) (.lst vs')
          refine ⟨⟨R.len, fun i y x e3 e4 => ?_, fun k' o e => ?_⟩, g2⟩
          · have z := R.sl i y x e3 e4
            cases y with
            | no => trivial
            | val d => obtain ⟨v, e, q⟩ := z; exact ⟨v, e, q.stepN g1⟩
            | own o =>
              obtain ⟨v, e, q⟩ := z
              refine ⟨v, e, q.keepN g1 fun b u p hb hw => g3 b u hb ?_⟩
              rw [hw]; unfold sow cow; intro z; cases z
            | ref k => exact z
            | pin d k => obtain ⟨v, e, e', q⟩ := z; exact ⟨v, e, e', q.stepN g1⟩
          · by_cases hk : k' = k
            · subst hk
              simp only [List.getElem?_set_self (List.getElem?_eq_some_iff.mp e2).1] at e
              cases e
              exact ⟨_, ev, .fl h1 upd_same (r'.stepN g1)⟩
            · simp only [List.getElem?_set_ne (Ne.symm hk)] at e
              obtain ⟨v, e5, q⟩ := R.st k' o e
              refine ⟨v, e5, q.keepN g1 fun b u p hb hw => g3 b u hb ?_⟩
              rw [hw]; unfold cow; intro z; injection z with z1 _; exact hk z1
      · cases h
    · cases h
  · cases h
/-- a method without, with an argument, by values -/
def MutR (c : Cc) (f : List D → Option (D × List D)) (r : V → Hp → VK → Prop) : Prop :=
  ∀ w H a vs ds d ds' (Q : VK), H a = some (.lst vs) → IsAll c w H vs ds → f ds = some (d, ds') → (∀ v vs', IsAll c w H vs' ds' → Is c w H v d → Q v (upd H a (.lst vs'))) → r (.ref a) H Q
theorem IsAll.eraseIdx : ∀ {vs : List V} {ds : List D} (n : Nat), IsAll c w H vs ds → IsAll c w H (vs.eraseIdx n) (ds.eraseIdx n)
  | _, _, _, .nil => .nil
  | _, _, 0, .cons h r => r
  | _, _, n + 1, .cons h r => .cons h (IsAll.eraseIdx n r)
theorem IsAll.set : ∀ {vs : List V} {ds : List D} (n : Nat) {v : V} {d : D}, Is c w H v d → IsAll c w H vs ds → IsAll c w H (vs.set n v) (ds.set n d)
  | _, _, _, _, _, _, .nil => .nil
  | _, _, 0, _, _, q, .cons h r => .cons q r
  | _, _, n + 1, _, _, q, .cons h r => .cons h (IsAll.set n q r)
theorem IsAll.dropLast {vs : List V} {ds : List D} (r : IsAll c w H vs ds) : IsAll c w H vs.dropLast ds.dropLast := by
  rw [List.dropLast_eq_take, List.dropLast_eq_take, r.length]
  exact r.take _
theorem IsAll.reverse : ∀ {vs : List V} {ds : List D}, IsAll c w H vs ds → IsAll c w H vs.reverse ds.reverse
  | _, _, .nil => .nil
  | _, _, .cons h r => by rw [List.reverse_cons, List.reverse_cons]; exact (IsAll.reverse r).append (.cons h .nil)
def rM0 (m : Mm) : V → List V → Hp → VK → Prop :=
  match m with
  | .pop => rPop
  | .clear => rClear
  | .reverse => rReverse
  | _ => fun _ _ _ _ => False
theorem mut_m0 (m : Mm) : MutR c (mm0 m) (fun x H Q => rM0 m x [] H Q) := by
  intro w H a vs ds d ds' Q h1 r e k
  unfold mm0 at e
  split at e
  · split at e
    · rename_i d1 e1
      cases e
      obtain ⟨v, e2, q⟩ := r.get e1
      exact ⟨a, vs, v, rfl, rfl, h1, by rw [r.length]; exact e2, k v _ r.dropLast q⟩
    · cases e
  · cases e
    exact ⟨a, vs, rfl, rfl, h1, k .non _ .nil .non⟩
  · cases e
    exact ⟨a, vs, rfl, rfl, h1, k .non _ r.reverse .non⟩
  · cases e
def rM1 (m : Mm) : V → List V → Hp → VK → Prop :=
  match m with
  | .append => rAppend
  | .extend => fun x vs H Q => rExtend x vs H Q ∨ rExtT x vs H Q
  | .pop => rPopAt
  | _ => fun _ _ _ _ => False
theorem mut_m1 (m : Mm) {x : D} {v : V} {w : Wm} {H : Hp} {a : Addr} {vs : List V} {ds ds' : List D} {d : D} {Q : VK} (hv : Is c w H v x) (h1 : H a = some (.lst vs)) (r : IsAll c w H vs ds) (e : mm1 m x ds = some (d, ds'))
    (k : ∀ v vs', IsAll c w H vs' ds' → Is c w H v d → Q v (upd H a (.lst vs'))) : rM1 m (.ref a) [v] H Q := by
  unfold mm1 at e
  split at e
  · split at e
    · rename_i hz
      cases e
      exact ⟨a, vs, v, rfl, rfl, h1, by rw [r.length]; exact hz, k .non _ (r.append (.cons hv .nil)) .non⟩
    · cases e
  · split at e
    · split at e
      · rename_i hz
        cases e
        cases hv with
        | lst h2 r2 => exact .inl ⟨a, _, vs, _, rfl, rfl, h1, h2.2, by rw [r.length, r2.length]; exact hz, k .non _ (r.append r2) .non⟩
      · cases e
    · split at e
      · rename_i hz
        cases e
        cases hv with
        | tup h2 r2 => exact .inr ⟨a, _, vs, _, rfl, rfl, h1, h2.2, by rw [r.length, r2.length]; exact hz, k .non _ (r.append r2) .non⟩
      · cases e
    · cases e
  · split at e
    · rename_i i
      split at e
      · rename_i hb
        split at e
        · rename_i kk e1
          split at e
          · rename_i d1 e2
            cases e
            cases hv
            obtain ⟨v, e3, q⟩ := r.get e2
            exact ⟨a, vs, i, kk, v, rfl, rfl, h1, hb.1, hb.2, by rw [r.length]; exact (ixN_seq e1).1, e3, k v _ (r.eraseIdx kk) q⟩
          · cases e
        · cases e
      · cases e
    · cases e
  · cases e
theorem MtM_or {id : String} {r r' : V → List V → Hp → VK → Prop} (h : MtM X id r) (h' : MtM X id r') : MtM X id (fun x vs H Q => r x vs H Q ∨ r' x vs H Q) := fun pins s σ H x vs v us Q I rx rv q => q.elim (h pins s σ H x vs v us Q I rx rv) (h' pins s σ H x vs v us Q I rx rv)
theorem tyV_ref {K : PySem.W.Frag} {H : Hp} {a : Addr} {vs : List V} (h : H a = some (.lst vs)) : tyV K "list" (.ref a) H := .inl ⟨rfl, vs, SqL.of h⟩
theorem Rel.peekLV {w : Wm} {rs : List V} {s s' : St} {σ : L2.St} {H : Hp} {i : Nat} {d : Unit} (R : Rel c w rs s σ H) (h : Dm.peekL i s = some (d, s')) : s' = s ∧ ∃ a vs, σ[i]? = some (some (.ref a)) ∧ H a = some (.lst vs) := by
  unfold Dm.peekL at h
  split at h
  · rename_i o e'
    cases h
    obtain ⟨v, kk, e2, q⟩ := R.peek e'
    cases q with
    | fl h1 h2 r => exact ⟨rfl, _, _, e2, h2⟩
  · cases h
theorem d_mth0 {m : Mm} {j : Nat} {x : Str} {p1 p2 p3 : Pos} (hK : X.K = c.K) (hm : (m = .pop ∨ m = .clear) ∨ m = .reverse) (h : PE X (.Name x p1) (tVar j)) (hl : (p2.endLine == p3.line) = true) :
    PE X (.Call (.Attribute (.Name x p1) m.nm p2) [] [] p3) (tE c (mutF j (mm0 m))) := by
  have pe : PE X (.Call (.Attribute (.Name x p1) m.nm p2) [] [] p3) (tBM0 X.K "list" (rM0 m) (tVar j)) := by
    rcases hm with (rfl | rfl) | rfl
    · exact pe_bm0 PySem.F.plainAttrs_list PySem.F.slot_list_pop PySem.F.type_list_pop mt_pop h rfl hl
    · exact pe_bm0 PySem.F.plainAttrs_list PySem.F.slot_list_clear PySem.F.type_list_clear mt_clear h rfl hl
    · exact pe_bm0 PySem.F.plainAttrs_list PySem.F.slot_list_reverse PySem.F.type_list_reverse mt_reverse h rfl hl
  refine pimp pe fun σ H Q ⟨w, rs, s, d, s', R, e, k⟩ => ?_
  obtain ⟨a, vs, ds, ds', hv, h1, r, ef, km⟩ := R.mut e
  refine ⟨_, hv, tyV_ref h1, mut_m0 m w H a vs ds d ds' Q h1 r ef fun v vs' r' q => ?_⟩
  obtain ⟨R', st⟩ := km vs' r'
  exact k v _ w R' (q.step st) st
theorem d_mth1 {m : Mm} {j : Nat} {x : Str} {p1 p2 p3 : Pos} {e : E} {me : M D} (hK : X.K = c.K) (hm : (m = .append ∨ m = .extend) ∨ m = .pop) (h : PE X (.Name x p1) (tVar j)) (hl : (p2.endLine == p3.line) = true) (he : PE X e.py (tE c me)) :
    PE X (.Call (.Attribute (.Name x p1) m.nm p2) [e.py] [] p3) (tE c (bnd (peekL j) fun _ => bnd me fun d => mutF j (mm1 m d))) := by
  have pa : PA X [e.py] (tCons (tE c me) tNil) := pa_cons he pa_nil (e.star _ _)
  have few : ((backTo p3 (starEach [e.py] X.env)).all (fun x => !x.1) && (backToKw p3 (keywordEach [] X.env)).all (fun x => x.1.isSome)
      && decide (([e.py] : List Expr).length + ([] : List Keyword).length + (if ([] : List Keyword).isEmpty then 0 else 1) < 30)) = true := by
    rw [e.star]; rfl
  have pe : PE X (.Call (.Attribute (.Name x p1) m.nm p2) [e.py] [] p3) (tBM X.K "list" (rM1 m) (tVar j) (tCons (tE c me) tNil)) := by
    rcases hm with (rfl | rfl) | rfl
    · exact pe_bm PySem.F.plainAttrs_list PySem.F.slot_list_append PySem.F.type_list_append mt_append h pa rfl few hl (e.star _ _) rfl
    · exact pe_bm PySem.F.plainAttrs_list PySem.F.slot_list_extend PySem.F.type_list_extend (MtM_or mt_extend mt_extT) h pa rfl few hl (e.star _ _) rfl
    · exact pe_bm PySem.F.plainAttrs_list PySem.F.slot_list_pop PySem.F.type_list_pop mt_popAt h pa rfl few hl (e.star _ _) rfl
  refine pimp pe fun σ H Q ⟨w, rs, s, d, s', R, e5, k⟩ => ?_
  obtain ⟨d0, s0, e0, e6⟩ := bnd_some.mp e5
  obtain ⟨d1, s1, e1, e7⟩ := bnd_some.mp e6
  obtain ⟨rfl, a0, vs0, hv, ha0⟩ := R.peekLV e0
  refine ⟨_, hv, tyV_ref ha0, w, rs, s0, d1, s1, R, e1, fun v1 H1 w1 R1 q1 st1 => ?_⟩
  · obtain ⟨a, vs, ds, ds', hv', h1, r, ef, km⟩ := R1.mut e7
    rw [hv] at hv'; cases hv'
    refine mut_m1 m q1 h1 r ef fun v2 vs' r' q => ?_
    obtain ⟨R', st⟩ := km vs' r'
    exact k v2 _ w1 R' (q.step st) (st1.trans st)
end
end Dm

/-! The D machine: sets of ints made of lists. -/
namespace Dm
open PySem L2 PyProof.Rows
abbrev ob0 (w : World) : Obj := { cls := .type "set", dict := none, data := .set #[] 0 (.fresh 0 0 (!w.params.followText "set-order")) }
section
variable {P : Program} {w : World} {A : Around} {E : Value → Shared → Prop} {s : Shared}
theorem set_of_list {l : Addr} {xs : Array Value} (ns : List Int) {Q : Value → Shared → Prop} (hh : A.handled = none) (hl : s.heap.IsList l xs) (hit : IntsAre xs.toList ns) (hb : ns.length + 1 < scanBound)
    (fin : ∀ (h' : Heap) (tk c : Nat), SetR w h' s.heap.objs.size (fun j => decide (j ∈ ns)) c → c ≤ ns.length → (∀ b o, s.heap.get? b = some o → h'.get? b = some o) → Q (.ref s.heap.objs.size) { s with heap := h', toks := tk }) :
    wpAny (model P w) A (call (.type "set") [.ref l]) Q E s := by
  have hn : xs.size = ns.length := by have q := IntsAre.length hit; rw [Array.length_toList] at q; exact q
  obtain ⟨c0, t0, m0⟩ := F.called_set.mro; have m1 := F.called_set.made; have m2 := F.called_set.sub
  refine wpAny_call (codeAny_of_tree ?_)
  show wpAny _ _ (callAny (.type "set") _) _ _ _
  refine wpAny_pure ⟨Code.quiet_builtin _ (by decide +kernel), codeAny_builtin F.entry_type_call ?_⟩
  rw [Around.under_plain (weight_type_call_type "set" [.ref l] []) rfl]
  have k1 := F.called_set.notType; have k2 := F.called_set.canCreate; have k3 := F.typeCall_set_1 (.ref l)
  repeat (any_goals (first | assumption | wp_step))
  refine codeAny_mono (code_set_led1 (.ref l) (E := E) (Q₁ := fun ob s₁ => ob = .ref s.heap.objs.size ∧ s₁ = { s with heap := s.heap.push (ob0 w) }) ⟨rfl, rfl⟩) fun r s₁ hr => ?_
  cases r with
  | error e => exact hr
  | ok fl => cases fl with
    | ret ob =>
      obtain ⟨rfl, rfl⟩ := hr
      have hS : (s.heap.push (ob0 w)).get? s.heap.objs.size = some (ob0 w) := Heap.get?_push_size _ rfl
      have hT : Shared.TypeIs { s with heap := s.heap.push (ob0 w) } (.ref s.heap.objs.size) "set" := ⟨_, hS, rfl⟩
      have i1 := F.called_set.init.lookup; have i2 := F.called_set.init.bind (.ref s.heap.objs.size)
      repeat (any_goals (first | assumption | wp_step))
      refine codeAny_mono (codeAny_call_builtin (R := wants (fun r s₂ => r = .none ∧ ∃ h' tk c, s₂ = { s with heap := h', toks := tk } ∧ SetR w h' s.heap.objs.size (fun j => decide (j ∈ ns)) c ∧ c ≤ ns.length ∧
          (∀ b o, s.heap.get? b = some o → h'.get? b = some o)) E) F.called_set.init.plain F.entry_set_init (check_set_init_1 hT ?_)) fun r2 s2 h2 => ?_
      · obtain ⟨ol, hol, hcl, nl, hsq⟩ := hl
        obtain ⟨ocls, odict, odata, oslots⟩ := ol
        simp only at hcl hsq
        subst hcl hsq
        have hol' : (s.heap.push (ob0 w)).get? l = some { cls := .type "list", dict := odict, data := .seq xs nl, slots := oslots } := Heap.get?_push_of_some _ hol
        have l1 := F.sub_list_set; have l2 := F.sub_list_frozenset
        have l3 : (Value.type "list" == Value.type "dict") = false := by decide
        have hl1 : (s.heap.push (ob0 w)).IsList l xs := ⟨_, hol', rfl, nl, rfl⟩
        unfold Builtin.«set.__init__» noKeywords Builtin.Frozenset.updateFrom
        generalize hPI : pyIter = PI
        wp_walk
        subst hPI
        refine wpAny_pyIter_list hl1 (wpAny_bind (wpAny_runValue ?_))
        have hlS : l < s.heap.objs.size := Heap.lt_size hol
        have h3 : A.in1.in1.in1.handled = none := by simp [hh]
        have hz1 : (s.heap.push (ob0 w)).objs.size = s.heap.objs.size + 1 := Heap.size_push ..
        have ne1 : l ≠ (s.heap.push (ob0 w)).objs.size := by rw [hz1]; exact Nat.ne_of_lt (Nat.lt_succ_of_lt hlS)
        have ne2 : s.heap.objs.size ∉ [(s.heap.push (ob0 w)).objs.size, l] := by
          rw [hz1]; simp only [List.mem_cons, List.not_mem_nil, or_false, not_or]
          exact ⟨Nat.ne_of_lt (Nat.lt_succ_self _), Nat.ne_of_gt hlS⟩
        have hval : ∀ (i : Nat) (v : Value), xs[i]? = some v → ∃ k t, ns[i]? = some k ∧ v = .int k t := fun i v hv => by
          have hi : i < ns.length := by rw [← hn]; exact (Array.getElem?_eq_some_iff.mp hv).1
          obtain ⟨t, e⟩ := IntsAre.int_at hit i v (by rw [Array.getElem?_toList]; exact hv)
          exact ⟨ns[i], t, List.getElem?_eq_getElem hi, by rw [e, List.getD_eq_getElem?_getD, List.getElem?_eq_getElem hi] <;> rfl⟩
        refine set_update_ints ((Walks.list h3 _ l ne1 xs).toS) s.heap.objs.size ne2 ns hn hb hval (xs.size - 0) 0 _ (by omega) (Nat.zero_le _)
          ⟨⟨_, Heap.get?_push_size _ rfl, rfl, rfl⟩, (hl1.push _)⟩ ?hS0 ?hR
        case hS0 => exact ⟨0, Nat.le_refl 0, setR_new_at (Heap.get?_push_of_some _ hS)⟩
        case hR =>
          intro s' c' hm hc' hS'
          obtain ⟨h', g2, d', tk', os'⟩ := s'
          have eg : g2 = s.gens := hm.gens
          have ed : d' = s.drawn := hm.drawn
          have eo : os' = s.os := hm.os
          subst eg ed eo
          show wpAny _ _ _ _ _ _
          refine wpAny_pure ?_
          show wpAny _ _ (PySem.ret Value.none) _ _ _
          rw [hn] at hc'
          refine wpAny_pure ⟨rfl, h', tk', c', rfl, hS', hc', fun b o e => ?_⟩
          have b0 : b < s.heap.objs.size := Heap.lt_size e
          exact hm.heap b o (by
            rw [hz1]; simp only [List.mem_cons, List.not_mem_nil, or_false, not_or]
            exact ⟨Nat.ne_of_lt b0, Nat.ne_of_lt (Nat.lt_succ_of_lt b0)⟩) (Heap.get?_push_of_some _ (Heap.get?_push_of_some _ e))
      · cases r2 with
        | error e => exact h2
        | ok fl2 => cases fl2 with
          | ret r =>
            obtain ⟨rfl, h', tk, c', rfl, hS', hc', hk'⟩ := h2
            repeat (any_goals (first | assumption | wp_step))
            exact fin _ _ _ hS' hc' hk'
          | _ => exact h2.elim
    | _ => exact hr.elim
theorem set_of_tuple {l : Addr} {xs : Array Value} (ns : List Int) {Q : Value → Shared → Prop} (hh : A.handled = none) (hl : s.heap.IsTuple l xs) (hit : IntsAre xs.toList ns) (hb : ns.length + 1 < scanBound)
    (fin : ∀ (h' : Heap) (tk c : Nat), SetR w h' s.heap.objs.size (fun j => decide (j ∈ ns)) c → c ≤ ns.length → (∀ b o, s.heap.get? b = some o → h'.get? b = some o) → Q (.ref s.heap.objs.size) { s with heap := h', toks := tk }) :
    wpAny (model P w) A (call (.type "set") [.ref l]) Q E s := by
  have hn : xs.size = ns.length := by have q := IntsAre.length hit; rw [Array.length_toList] at q; exact q
  obtain ⟨c0, t0, m0⟩ := F.called_set.mro; have m1 := F.called_set.made; have m2 := F.called_set.sub
  refine wpAny_call (codeAny_of_tree ?_)
  show wpAny _ _ (callAny (.type "set") _) _ _ _
  refine wpAny_pure ⟨Code.quiet_builtin _ (by decide +kernel), codeAny_builtin F.entry_type_call ?_⟩
  rw [Around.under_plain (weight_type_call_type "set" [.ref l] []) rfl]
  have k1 := F.called_set.notType; have k2 := F.called_set.canCreate; have k3 := F.typeCall_set_1 (.ref l)
  repeat (any_goals (first | assumption | wp_step))
  refine codeAny_mono (code_set_led1 (.ref l) (E := E) (Q₁ := fun ob s₁ => ob = .ref s.heap.objs.size ∧ s₁ = { s with heap := s.heap.push (ob0 w) }) ⟨rfl, rfl⟩) fun r s₁ hr => ?_
  cases r with
  | error e => exact hr
  | ok fl => cases fl with
    | ret ob =>
      obtain ⟨rfl, rfl⟩ := hr
      have hS : (s.heap.push (ob0 w)).get? s.heap.objs.size = some (ob0 w) := Heap.get?_push_size _ rfl
      have hT : Shared.TypeIs { s with heap := s.heap.push (ob0 w) } (.ref s.heap.objs.size) "set" := ⟨_, hS, rfl⟩
      have i1 := F.called_set.init.lookup; have i2 := F.called_set.init.bind (.ref s.heap.objs.size)
      repeat (any_goals (first | assumption | wp_step))
      refine codeAny_mono (codeAny_call_builtin (R := wants (fun r s₂ => r = .none ∧ ∃ h' tk c, s₂ = { s with heap := h', toks := tk } ∧ SetR w h' s.heap.objs.size (fun j => decide (j ∈ ns)) c ∧ c ≤ ns.length ∧
          (∀ b o, s.heap.get? b = some o → h'.get? b = some o)) E) F.called_set.init.plain F.entry_set_init (check_set_init_1 hT ?_)) fun r2 s2 h2 => ?_
      · obtain ⟨ol, hol, hcl, nl, hsq⟩ := hl
        obtain ⟨ocls, odict, odata, oslots⟩ := ol
        simp only at hcl hsq
        subst hcl hsq
        have hol' : (s.heap.push (ob0 w)).get? l = some { cls := .type "tuple", dict := odict, data := .seq xs nl, slots := oslots } := Heap.get?_push_of_some _ hol
        have l1 := F.sub_tuple_set; have l2 := F.sub_tuple_frozenset
        have l3 : (Value.type "tuple" == Value.type "dict") = false := by decide
        have hl1 : (s.heap.push (ob0 w)).IsTuple l xs := ⟨_, hol', rfl, nl, rfl⟩
        unfold Builtin.«set.__init__» noKeywords Builtin.Frozenset.updateFrom
        generalize hPI : pyIter = PI
        wp_walk
        subst hPI
        refine wpAny_pyIter_tuple hl1 (wpAny_bind (wpAny_runValue ?_))
        have hlS : l < s.heap.objs.size := Heap.lt_size hol
        have h3 : A.in1.in1.in1.handled = none := by simp [hh]
        have hz1 : (s.heap.push (ob0 w)).objs.size = s.heap.objs.size + 1 := Heap.size_push ..
        have ne1 : l ≠ (s.heap.push (ob0 w)).objs.size := by rw [hz1]; exact Nat.ne_of_lt (Nat.lt_succ_of_lt hlS)
        have ne2 : s.heap.objs.size ∉ [(s.heap.push (ob0 w)).objs.size, l] := by
          rw [hz1]; simp only [List.mem_cons, List.not_mem_nil, or_false, not_or]
          exact ⟨Nat.ne_of_lt (Nat.lt_succ_self _), Nat.ne_of_gt hlS⟩
        have hval : ∀ (i : Nat) (v : Value), xs[i]? = some v → ∃ k t, ns[i]? = some k ∧ v = .int k t := fun i v hv => by
          have hi : i < ns.length := by rw [← hn]; exact (Array.getElem?_eq_some_iff.mp hv).1
          obtain ⟨t, e⟩ := IntsAre.int_at hit i v (by rw [Array.getElem?_toList]; exact hv)
          exact ⟨ns[i], t, List.getElem?_eq_getElem hi, by rw [e, List.getD_eq_getElem?_getD, List.getElem?_eq_getElem hi] <;> rfl⟩
        refine set_update_ints ((Walks.tuple h3 _ l ne1 xs).toS) s.heap.objs.size ne2 ns hn hb hval (xs.size - 0) 0 _ (by omega) (Nat.zero_le _)
          ⟨⟨_, Heap.get?_push_size _ rfl, rfl, rfl⟩, (hl1.push _)⟩ ?hS0 ?hR
        case hS0 => exact ⟨0, Nat.le_refl 0, setR_new_at (Heap.get?_push_of_some _ hS)⟩
        case hR =>
          intro s' c' hm hc' hS'
          obtain ⟨h', g2, d', tk', os'⟩ := s'
          have eg : g2 = s.gens := hm.gens
          have ed : d' = s.drawn := hm.drawn
          have eo : os' = s.os := hm.os
          subst eg ed eo
          show wpAny _ _ _ _ _ _
          refine wpAny_pure ?_
          show wpAny _ _ (PySem.ret Value.none) _ _ _
          rw [hn] at hc'
          refine wpAny_pure ⟨rfl, h', tk', c', rfl, hS', hc', fun b o e => ?_⟩
          have b0 : b < s.heap.objs.size := Heap.lt_size e
          exact hm.heap b o (by
            rw [hz1]; simp only [List.mem_cons, List.not_mem_nil, or_false, not_or]
            exact ⟨Nat.ne_of_lt b0, Nat.ne_of_lt (Nat.lt_succ_of_lt b0)⟩) (Heap.get?_push_of_some _ (Heap.get?_push_of_some _ e))
      · cases r2 with
        | error e => exact h2
        | ok fl2 => cases fl2 with
          | ret r =>
            obtain ⟨rfl, h', tk, c', rfl, hS', hc', hk'⟩ := h2
            repeat (any_goals (first | assumption | wp_step))
            exact fin _ _ _ hS' hc' hk'
          | _ => exact h2.elim
    | _ => exact hr.elim
end
end Dm

namespace Dm
open PySem L2 PyProof.Rows
section
variable {P : Program} {w : World} {A : Around} {E : Value → Shared → Prop} {s : Shared}
theorem entry_sne : entryFor table "set.__ne__" = some Builtin.«frozenset.__ne__» := entryFor_alias (id' := "frozenset.__ne__") (by kernel_rfl) rfl (by decide +kernel) (by kernel_rfl)
theorem any_set {a : Addr} {Q : Bool → Shared → Prop} (hT : s.TypeIs (.ref a) "set") (h : Q true s) : wpAny (model P w) A (Builtin.Frozenset.isAnySet (.ref a)) Q E s := by
  unfold Builtin.Frozenset.isAnySet
  refine wpAny_bind (wpAny_isInstance hT sub_set_self ?_)
  exact wpAny_pure h
theorem quiet_int {e : Int × Value} (g : GoodE e) : Builtin.Frozenset.quietEq e.2 = pure true := by
  obtain ⟨k, t, h, _⟩ := g
  rw [h]; rfl
theorem unseen {a b : Addr} {Q : List (Int × Value) → Shared → Prop} {o o' : Obj} {es es' : Array (Int × Value)} {ep ep' : Nat} {t t' : SetTable} (ho : s.heap.get? a = some o) (hd : o.data = .set es ep t) (hf : t.fits es.size = true) (ho' : s.heap.get? b = some o') (hd' : o'.data = .set es' ep' t') (hf' : t'.fits es'.size = true)
    (g : ∀ e ∈ es.toList, GoodE e) (g' : ∀ e ∈ es'.toList, GoodE e) (h : Q es.toList s) : wpAny (model P w) A (Builtin.Frozenset.walkUnseen a b) Q E s := by
  unfold Builtin.Frozenset.walkUnseen
  refine wpAny_bind (wpAny_setEntries_of ho hd hf ?_)
  refine wpAny_bind (wpAny_setEntries_of ho' hd' hf' ?_)
  refine wpAny_bind (wpAny_forIn_list (s := s) _ (fun l c s1 => s1 = s ∧ c = (none, PUnit.unit) ∧ ∀ e ∈ l, GoodE e) _ ?_ ?_ _ _ ⟨rfl, rfl, fun x hx => ?_⟩)
  · rintro ⟨h1, h2⟩ rest c s1 ⟨rfl, rfl, hg⟩
    dsimp only
    refine wpAny_bind (wpAny_of_eq (quiet_int (hg _ List.mem_cons_self)) ?_)
    exact wpAny_pure ⟨rfl, rfl, fun e he => hg e (List.mem_cons_of_mem _ he)⟩
  · rintro c s1 ⟨rfl, rfl, hg⟩
    exact wpAny_pure h
  · rcases List.mem_append.mp hx with z | z
    · exact g x z
    · exact g' x z
theorem sub_sets {a b : Addr} {S T : Int → Bool} {n m : Nat} {id : String} {Q : Bool → Shared → Prop} (R : SetR w s.heap a S n) (R' : SetR w s.heap b T m) (h : ∀ r : Bool, (r = true ↔ n ≤ m ∧ ∀ k, S k = true → T k = true) → Q r s) :
    wpAny (model P w) A (Builtin.Frozenset.subsetOf id a b) Q E s := by
  have hS' := R'.setOf (P := P)
  obtain ⟨o, es, ep, t, ho, hex, hd, g, nd, hm, hb, hf, hn, hr, hl⟩ := R
  obtain ⟨o', es', ep', t', ho', hex', hd', g', nd', hm', hb', hf', hn', hr', hl'⟩ := R'
  unfold Builtin.Frozenset.subsetOf Builtin.Frozenset.sizeOf
  refine wpAny_bind (wpAny_bind (wpAny_setEntries_of ho hd hf (wpAny_pure ?_)))
  refine wpAny_bind (wpAny_bind (wpAny_setEntries_of ho' hd' hf' (wpAny_pure ?_)))
  rw [hn, hn']
  split
  · rename_i hgt
    exact wpAny_pure (h false ⟨fun z => (nomatch z), fun z => absurd z.1 (by omega)⟩)
  · rename_i hle
    refine wpAny_bind (wpAny_setEpoch_of ho hd hf ?_)
    refine wpAny_bind (unseen ho hd hf ho' hd' hf' g g' ?_)
    refine wpAny_bind (wpAny_forIn_list (s := s) _ (fun l c s1 => s1 = s ∧ c = (none, PUnit.unit) ∧ (∀ e ∈ l, e ∈ es.toList) ∧ ((∀ k ∈ es.toList.map keyOf, T k = true) ↔ ∀ k ∈ l.map keyOf, T k = true)) _ ?_ ?_ es.toList _ ⟨rfl, rfl, fun _ z => z, Iff.rfl⟩)
    · rintro x rest c s1 ⟨rfl, rfl, hsub, hiff⟩
      obtain ⟨hx, vx⟩ := x
      obtain ⟨k, tk, e1, e2⟩ := g _ (hsub _ List.mem_cons_self)
      simp only at e1 e2
      subst e1 e2
      dsimp only
      refine wpAny_bind (wpAny_holding (wpAny_setFind_of (knd := intKind P w) (k := k) (intKind_is _ _ _ _) rfl hS' fun r hr => ?_))
      cases r with
      | none =>
        have hk : T k = false := by rw [← hr]; rfl
        refine wpAny_pure ?_
        refine wpAny_pure (h false ?_)
        constructor
        · intro z; cases z
        · intro z
          have := z.2 k ((hm k).mpr (List.mem_map.mpr ⟨_, hsub _ List.mem_cons_self, rfl⟩))
          rw [hk] at this; cases this
      | some i =>
        have hk : T k = true := by rw [← hr]; rfl
        show wpAny _ _ (Builtin.Frozenset.unchanged _ _ _ >>= _) _ _ _
        unfold Builtin.Frozenset.unchanged
        refine wpAny_bind (wpAny_bind (wpAny_setEpoch_of ho hd hf ?_))
        rw [if_neg (by simp)]
        refine wpAny_pure (wpAny_pure ⟨rfl, rfl, fun e he => hsub e (List.mem_cons_of_mem _ he), hiff.trans ?_⟩)
        constructor
        · intro z q hq; exact z q (List.mem_cons_of_mem _ hq)
        · intro z q hq
          rcases List.mem_cons.mp hq with e | e
          · rw [e]; exact hk
          · exact z q e
    · rintro c s1 ⟨rfl, rfl, hsub, hiff⟩
      refine wpAny_pure (h true ?_)
      refine ⟨fun _ => ⟨by omega, fun k hk => hiff.mpr (fun _ z => by cases z) k ((hm k).mp hk)⟩, fun _ => rfl⟩
theorem sup_of_len : ∀ (l l' : List Int), l.Nodup → (∀ k ∈ l, k ∈ l') → l'.length ≤ l.length → ∀ k ∈ l', k ∈ l
  | [], l', _, _, h, k, hk => by
    have : l' = [] := List.eq_nil_of_length_eq_zero (by simpa using h)
    rw [this] at hk; cases hk
  | x :: l, l', nd, hs, h, k, hk => by
    obtain ⟨d1, d2⟩ := List.nodup_cons.mp nd
    have hx : x ∈ l' := hs x List.mem_cons_self
    by_cases e : k = x
    · rw [e]; exact List.mem_cons_self
    · refine List.mem_cons_of_mem _ (sup_of_len l (l'.erase x) d2 (fun q hq => ?_) ?_ k ((List.mem_erase_of_ne e).mpr hk))
      · exact (List.mem_erase_of_ne (fun z : q = x => d1 (z ▸ hq))).mpr (hs q (List.mem_cons_of_mem _ hq))
      · rw [List.length_erase_of_mem hx]
        rw [List.length_cons] at h
        omega
/-- n members each: as many, and all of the one in the other, is the same -/
theorem sub_card {S T : Int → Bool} {l l' : List Int} (n1 : l.Nodup) (h1 : ∀ k, S k = true ↔ k ∈ l) (h2 : ∀ k, T k = true ↔ k ∈ l') (hn : l.length = l'.length) (hs : ∀ k, S k = true → T k = true) : ∀ k, S k = T k := fun k => by
  refine Bool.eq_iff_iff.mpr ⟨hs k, fun z => ?_⟩
  exact (h1 k).mpr (sup_of_len l l' n1 (fun q hq => (h2 q).mp (hs q ((h1 q).mpr hq))) (by omega) k ((h2 k).mp z))
theorem card_same {S T : Int → Bool} {l l' : List Int} (n1 : l.Nodup) (n2 : l'.Nodup) (h1 : ∀ k, S k = true ↔ k ∈ l) (h2 : ∀ k, T k = true ↔ k ∈ l') (hs : ∀ k, S k = T k) : l.length = l'.length :=
  ((List.perm_ext_iff_of_nodup n1 n2).mpr fun k => by rw [← h1, ← h2, hs]).length_eq
theorem call_sne {a b : Addr} {S T : Int → Bool} {n m : Nat} {Q : Value → Shared → Prop} (R : SetR w s.heap a S n) (R' : SetR w s.heap b T m) (h : ∀ r : Bool, (r = true ↔ ¬ ∀ k, S k = T k) → Q (.bool r) s) :
    wpAny (model P w) A (call (.builtin "set.__ne__") [.ref a, .ref b]) Q E s := by
  have hT : s.TypeIs (.ref a) "set" := (R.setOf (P := P)).typeIs
  have hT' : s.TypeIs (.ref b) "set" := (R'.setOf (P := P)).typeIs
  refine wpAny_call_entry F.slot_set_ne hT entry_sne ?_ (F.args_set_ne_2 _ _)
  unfold Builtin.«frozenset.__ne__»
  refine wpAny_bind (m := Builtin.Frozenset.slot1 "__ne__" _) (wpAny_of_eq (a := (.ref a, .ref b)) (by rfl) ?_)
  dsimp only
  refine wpAny_bind (any_set hT' ?_)
  have R1 := R; have R2 := R'
  obtain ⟨o, es, ep, t, ho, hex, hd, g, nd, hm, hb, hf, hn, hr, hl⟩ := R
  obtain ⟨o', es', ep', t', ho', hex', hd', g', nd', hm', hb', hf', hn', hr', hl'⟩ := R'
  rw [if_neg (by decide)]
  refine wpAny_bind (m := Builtin.Frozenset.addrOf _) (wpAny_of_eq (a := a) rfl ?_)
  refine wpAny_bind (m := Builtin.Frozenset.addrOf _) (wpAny_of_eq (a := b) rfl ?_)
  refine wpAny_bind (m := Builtin.Frozenset.sizeOf a) ?_
  unfold Builtin.Frozenset.sizeOf
  refine wpAny_bind (wpAny_setEntries_of ho hd hf (wpAny_pure ?_))
  refine wpAny_bind (wpAny_bind (wpAny_setEntries_of ho' hd' hf' (wpAny_pure ?_)))
  have l1 : (es.toList.map keyOf).length = n := by rw [List.length_map, Array.length_toList]; exact hn
  have l2 : (es'.toList.map keyOf).length = m := by rw [List.length_map, Array.length_toList]; exact hn'
  rw [hn, hn']
  by_cases he : n = m
  · refine wpAny_bind (m := if (n != m) = true then _ else _) ?_
    rw [if_neg (by simp [he])]
    refine wpAny_bind (m := isInstance _ _ <&&> _) (wpAny_bind (wpAny_isInstance hT F.sub_set_frozenset (wpAny_pure ?_)))
    rw [if_neg (by decide)]
    refine sub_sets R1 R2 fun r hr => wpAny_pure ⟨_, rfl, h _ ?_⟩
    rw [Bool.not_eq_true', ← Bool.not_eq_true, hr]
    constructor
    · intro z q; exact z ⟨by omega, fun k hk => by rw [← q k]; exact hk⟩
    · intro z q; exact z (sub_card nd hm hm' (by omega) q.2)
  · refine wpAny_bind (m := if (n != m) = true then _ else _) ?_
    rw [if_pos (by simp [he])]
    refine wpAny_pure (wpAny_pure ⟨_, rfl, h true ⟨fun _ q => he ?_, fun _ => rfl⟩⟩)
    rw [← l1, ← l2]
    exact card_same nd nd' hm hm' q
end
end Dm

/-! enumerate over a tuple. -/
namespace Dm
open PySem PySem.Spec PyProof.Rows L2
open AutoSeq1 (wpAny_loadPart')
abbrev itO (l : Addr) : Obj := { cls := .type "tuple_iterator", data := .fields #[.ref l, .int 0 0] }
abbrev enO (i : Addr) : Obj := { cls := .type "enumerate", data := .fields #[.none, .bool false, .ref i, rawInt 0, .none, .none] }
theorem newEnT (l : Addr) (its : Array Value) (n : Nat) (dct : Option Addr) (sl : Array (Option Value)) :
    Meets (Builtin.«enumerate.__new__» ⟨[.type "enumerate", .ref l], []⟩) fun _ R s =>
      s.heap.get? l = some { cls := .type "tuple", dict := dct, data := .seq its n, slots := sl } ∧
      R (.ok (.ret (.ref (s.heap.push (itO l)).objs.size))) { s with heap := (s.heap.push (itO l)).push (enO s.heap.objs.size) } :=
  .of_wp fun prog w A R ⟨hp, g, d, tk, os⟩ ⟨hl, h⟩ => by
    have sub := sub_enumerate
    have tt : (Shared.heap ⟨hp, g, d, tk, os⟩).IsTuple l its := ⟨_, hl, rfl, n, rfl⟩
    wp_walk using wpAny_loadPart' hl
    refine wpAny_stack_any fun st => ?_
    refine wpAny_pure ?_
    split
    · rename_i c _ _ _ _ _
      cases (c == Value.type "enumerate") <;> (wp_walk using wpAny_loadPart' hl, wpAny_pyIter_tuple tt; exact ⟨_, rfl, h⟩)
    · wp_walk using wpAny_loadPart' hl, wpAny_pyIter_tuple tt
      exact ⟨_, rfl, h⟩
section
variable {prog : Program} {w : World} {A : Around} {E : Value → Shared → Prop} {s : Shared}
theorem callEnT {l : Addr} {its : Array Value} {Q : Value → Shared → Prop} (ht : s.heap.IsTuple l its)
    (h : ∀ h', IsEnum h' (s.heap.objs.size + 1) s.heap.objs.size 0 .none → h'.IsTupleIter s.heap.objs.size l 0 →
      (∀ b o, s.heap.get? b = some o → h'.get? b = some o) → Q (.ref (s.heap.objs.size + 1)) { s with heap := h' }) :
    wpAny (model prog w) A (call (.type "enumerate") [.ref l]) Q E s := by
  obtain ⟨⟨c, dct, dt, sl⟩, hl, hc, n, hd⟩ := ht
  have hc : c = .type "tuple" := hc
  have hd : dt = .seq its n := hd
  subst hc hd
  have new := newEnT l its n dct sl
  refine callType_new F.called_enumerate (by decide) (F.typeCall_enumerate_1 _) (F.newCall_enumerate_1 _) (fun ob => F.args_object_init_2 ob _) F.entry_enumerate_new new ⟨hl, ?_⟩
  have hz : (s.heap.push (itO l)).objs.size = s.heap.objs.size + 1 := Heap.size_push ..
  show _ ∧ _
  rw [hz]
  have g1 : ((s.heap.push (itO l)).push (enO s.heap.objs.size)).get? (s.heap.objs.size + 1) = some (enO s.heap.objs.size) := by
    rw [← hz]; exact Heap.get?_push_size _ rfl
  have g2 : ((s.heap.push (itO l)).push (enO s.heap.objs.size)).get? s.heap.objs.size = some (itO l) := Heap.get?_push_of_some _ (Heap.get?_push_size _ rfl)
  exact ⟨⟨_, g1, rfl⟩, h _ g1 ⟨_, g2, rfl, rfl⟩ fun b o x => Heap.get?_push_of_some _ (Heap.get?_push_of_some _ x)⟩
theorem endEnT {e it l : Addr} {i : Nat} {its : Array Value} {old : Value} {Q : Option Value → Shared → Prop} (hh : A.handled = none) (he : IsEnum s.heap e it i old) (hit : s.heap.IsTupleIter it l i) (ht : s.heap.IsTuple l its) (hx : its[i]? = none)
    (hQ : ∀ h', Heap.ExtBut it s.heap h' → Q none { s with heap := h' }) : wpAny (model prog w) A (pyNext (.ref e)) Q E s := by
  have ty : s.TypeIs (.ref e) "enumerate" := ⟨_, he, rfl⟩
  have slot := F.slot_enumerate_next
  unfold pyNext
  refine wpAny_bind (wpAny_attempt (wpAny_callSpecial?_slot (name := Str.ofString "__next__") ty slot (wpAny_call_entry slot ty F.entry_enumerate_next ?_ (F.args_enumerate_next_1 _))))
  show wpAny _ _ (field (.ref e) 2 >>= _) _ _ _
  refine wpAny_bind (wpAny_field he rfl (x := .ref it) rfl (wpAny_bind (wpAny_nextOf_tuple_end hh hit ht hx fun h' x k ⟨o, ho, hc⟩ => ?_)))
  exact wpAny_bind (wpAny_isInstance (T := "StopIteration") (b := true) ⟨o, ho, hc⟩ isSubtype_stop (wpAny_pure (hQ _ k)))
end
/-- the tuple at a, each item in a new pair -/
def IteT (K : PySem.W.Frag) (a : Addr) : It :=
  ⟨fun i H => ∃ (xs : List V) (x : V), SqT K H a xs ∧ xs[i]? = some x,
   fun i H v H' => ∃ T x, v = .ref T ∧ H T = none ∧ H' = upd H T (.tup [.int (i : Nat), x]) ∧ ∀ xs, SqT K H a xs → xs[i]? = some x,
   fun i H => ∃ xs : List V, SqT K H a xs ∧ xs.length ≤ i⟩
theorem turnEnT {P : Program} {w : World} {K : PySem.W.Frag} {elts : List Expr} {kk : Nat} {tpos : Pos} (a e it : Addr) :
    Turn P w K (.Tuple elts kk tpos) (IteT K a) [e, it] e (fun i h => (∃ old, IsEnum h e it ((i : Nat) : Int) old) ∧ h.IsTupleIter it a i ∧ e ≠ it ∧ e ≠ a ∧ a ≠ it) where
  mem := List.mem_cons_self
  obj := fun i h ⟨⟨old, he⟩, ⟨o, ho, _, hd⟩, _⟩ b hb => by
    rcases List.mem_cons.mp hb with z | z
    · rw [z]; exact ⟨_, he, fun v q => nomatch q⟩
    · rw [List.mem_singleton.mp z]; exact ⟨o, ho, fun v q => by rw [hd] at q; cases q⟩
  keep := fun i h h' ⟨⟨old, he⟩, hi, hne⟩ k => ⟨⟨old, k e List.mem_cons_self _ he⟩, hi.at fun o q => k it (List.mem_cons_of_mem _ List.mem_cons_self) o q, hne⟩
  item := by
    intro X hP hw hK hc i pins s σ H E I hf ⟨⟨old, he⟩, hit, n1, n2, n3⟩ ⟨xs, x, hq, hx⟩
    subst hP hw hK
    obtain ⟨its, rv, p, hz⟩ := I.tuple hq
    obtain ⟨u, hu, ru⟩ := rv.get hx
    have hel : e < s.heap.objs.size := Heap.lt_size he
    have hil : it < s.heap.objs.size := let ⟨_, q, _⟩ := hit; Heap.lt_size q
    have D := Draws.tuple (prog := X.prog) (w := X.w) (A := X.A.in1) (I.ok.hd hc) it a n3 its.toArray
    have hlt : i < its.toArray.size := by
      have := (List.getElem?_eq_some_iff.mp hu).1
      simpa using this
    refine wpAny_pyNext_enum_itemD D he ⟨hit, p⟩ hlt n1 (by simp [n1, n2]) fun x' h' tk hx' ho hst hT hsz hk => ?_
    have ex : x' = u := by
      have h1 : its[i]? = some x' := by simpa using hx'
      rw [hu] at h1
      exact (Option.some.inj h1).symm
    subst ex
    refine ⟨_, rfl, wpAny_letOwnedTupleGo_enum (s := { s with heap := h', toks := tk + 1 }) ho fun h2 he2 sb => ?_⟩
    have hT2 : h2.get? s.heap.objs.size = some { cls := .type "tuple", data := .seq #[.int i tk, x'] } := (sb.2 _ (Nat.ne_of_gt hel)).trans hT
    have new : ObjOk X.prog X.w (upd H s.heap.objs.size (.tup [.int (i : Nat), x])) h2 s.heap.objs.size (.tup [.int (i : Nat), x]) := by
      refine ⟨?_, [.int i tk, x'], .cons ⟨_, rfl⟩ (.cons ru .nil), ⟨_, hT2, rfl, _, rfl⟩⟩
      show 2 ≤ sizeLine
      decide
    have fr : ∀ b ob, b ∉ [e, it] → s.heap.get? b = some ob → h2.get? b = some ob := fun b ob hb q => by
      have b1 : b ≠ e := fun z => hb (z ▸ List.mem_cons_self)
      have b2 : b ≠ it := fun z => hb (z ▸ List.mem_cons_of_mem _ List.mem_cons_self)
      exact (sb.2 b b1).trans (hk b ob b1 b2 q)
    have I1 := I.turnedNew (t' := tk + 1) (ch := [e, it]) fr hf (Nat.le_refl _) new
    refine ⟨.ref s.heap.objs.size, _, I1, rfl, ⟨_, x, rfl, I.hok.fresh (Nat.le_refl _), rfl, fun ys hy => ?_⟩, ⟨⟨x', ?_⟩, hst.1.at fun o q => (sb.2 it (Ne.symm n1)).trans q, n1, n2, n3⟩, fun b hb => ?_⟩
    · rw [I.tuple_inj hy hq]; exact hx
    · have e1 : ((i + 1 : Nat) : Int) = (i : Int) + 1 := by omega
      rw [e1]; exact he2
    · have lt : b < s.heap.objs.size := by
        rcases List.mem_cons.mp hb with z | z
        · rw [z]; exact hel
        · rw [List.mem_singleton.mp z]; exact hil
      rw [upd_ne (Nat.ne_of_lt lt)]
      exact (hf b hb).1
  done := by
    intro X hP hw hK hc i pins s σ H E I hf ⟨⟨old, he⟩, hit, n1, n2, n3⟩ ⟨xs, hq, hx⟩
    subst hP hw hK
    obtain ⟨its, rv, p, hz⟩ := I.tuple hq
    obtain ⟨f0, f1, f2, f3, f4, f5⟩ := hf it (List.mem_cons_of_mem _ List.mem_cons_self)
    have hl := rv.length
    refine endEnT (I.ok.hd hc) he hit p (by simp; omega) fun h' eb => ⟨rfl, ?_⟩
    exact I.turned (t' := s.toks) (fun b o hb q => eb b o hb q) f0 f1 f3 f4 f5
  self := fun A i s Q E ⟨⟨_, he⟩, _⟩ h => wpAny_pyIter_enum he h
def iEnumB (K : PySem.W.Frag) (ta : TA) : TI := fun σ H R => ta σ H fun vs H1 => ∃ a xs, vs = [.ref a] ∧ ((SqL K H1 a xs ∧ R (Ite K a) H1) ∨ (SqT K H1 a xs ∧ R (IteT K a) H1))
theorem pi_enumB {X : Cx} {e : Expr} {ta : TA} {p pos tpos : Pos} {elts : List Expr} {kk : Nat} (hg : Gl X "enumerate") (hm : X.mg "enumerate" = none) (ha : PA X [e] ta) (hs : starEach [e] X.env = [(false, eval e X.env)] := by rfl) :
    PI X (.Tuple elts kk tpos) (.Call (.Name "enumerate" p) [e] [] pos) (iEnumB X.K ta) := ⟨fun pins s σ H R I h => by
  refine Call_ (ld_blt I hg hm boot_enumerate (PyProof.Rows.callWith_type1 (thn (ha.run pos pins s σ H _ I h) fun us s1 ⟨vs, H1, I1, r1, a, xs, ex, q⟩ => ?_) hs rfl))
  subst ex
  have nx : ∀ {b}, b = s1.heap.objs.size + 1 ∨ b = s1.heap.objs.size → s1.heap.objs.size ≤ b := fun {b} z => by rcases z with z | z <;> omega
  cases r1 with
  | cons r rr =>
    cases rr
    cases r
    rcases q with ⟨hq, q⟩ | ⟨hq, q⟩
    · obtain ⟨its, rv, p', hz⟩ := I1.list hq
      refine call_enumerate_list p'.isList fun h' he hit hsz hk => ?_
      have I2 : Inv X pins σ H1 { s1 with heap := h' } := I1.kept (t' := s1.toks) hk
      have tn := turn_enum (P := X.prog) (w := X.w) (K := X.K) (elts := elts) (kk := kk) (tpos := tpos) a (s1.heap.objs.size + 1) s1.heap.objs.size
      refine wpAny_pyIter_enum he ⟨s1.heap.objs.size + 1, _, _, _, H1, rfl, I2, tn, ⟨⟨.none, he⟩, hit, Nat.succ_ne_self _⟩, fun b hb => ?_, q⟩
      have le := nx (b := b) (by simpa using hb)
      exact I1.fpOk le (I1.hok.fresh le)
    · obtain ⟨its, rv, p', hz⟩ := I1.tuple hq
      have al : a < s1.heap.objs.size := let ⟨_, q, _⟩ := p'; Heap.lt_size q
      refine callEnT p' fun h' he hit hk => ?_
      have I2 : Inv X pins σ H1 { s1 with heap := h' } := I1.kept (t' := s1.toks) hk
      have tn := turnEnT (P := X.prog) (w := X.w) (K := X.K) (elts := elts) (kk := kk) (tpos := tpos) a (s1.heap.objs.size + 1) s1.heap.objs.size
      refine wpAny_pyIter_enum he ⟨s1.heap.objs.size + 1, _, _, _, H1, rfl, I2, tn, ⟨⟨.none, he⟩, hit, Nat.succ_ne_self _, Nat.ne_of_gt (Nat.lt_succ_of_lt al), Nat.ne_of_lt al⟩, fun b hb => ?_, q⟩
      have le := nx (b := b) (by simpa using hb)
      exact I1.fpOk le (I1.hok.fresh le)⟩
end Dm

/-! The D machine: sets of ints, index, slices, own len and ==. -/
namespace Dm
open PySem L2 PyProof.Rows

/-! ### sets of ints -/
theorem insI_mem {x k : Int} : ∀ {l : List Int}, k ∈ insI x l ↔ k = x ∨ k ∈ l
  | [] => by simp [insI]
  | y :: l => by
    unfold insI
    split
    · simp
    · split
      · rename_i h; subst h; simp
      · rw [List.mem_cons, insI_mem, List.mem_cons]
        constructor
        · rintro (h | h | h)
          · exact .inr (.inl h)
          · exact .inl h
          · exact .inr (.inr h)
        · rintro (h | h | h)
          · exact .inr (.inl h)
          · exact .inl h
          · exact .inr (.inr h)
theorem ssI_mem {k : Int} : ∀ {l : List Int}, k ∈ ssI l ↔ k ∈ l
  | [] => Iff.rfl
  | x :: l => by rw [ssI, insI_mem, ssI_mem, List.mem_cons]
theorem insI_sorted {x : Int} : ∀ {l : List Int}, l.Pairwise (· < ·) → (insI x l).Pairwise (· < ·)
  | [], _ => by simp [insI]
  | y :: l, h => by
    obtain ⟨h1, h2⟩ := List.pairwise_cons.mp h
    unfold insI
    split
    · rename_i hx
      refine List.pairwise_cons.mpr ⟨fun z hz => ?_, h⟩
      rcases List.mem_cons.mp hz with e | e
      · rw [e]; exact hx
      · have := h1 z e; omega
    · split
      · exact h
      · rename_i h3 h4
        refine List.pairwise_cons.mpr ⟨fun z hz => ?_, insI_sorted h2⟩
        rcases insI_mem.mp hz with e | e
        · rw [e]; omega
        · exact h1 z e
theorem ssI_sorted : ∀ l : List Int, (ssI l).Pairwise (· < ·)
  | [] => .nil
  | x :: l => insI_sorted (ssI_sorted l)
theorem sorted_unique : ∀ {l l' : List Int}, l.Pairwise (· < ·) → l'.Pairwise (· < ·) → (∀ k, k ∈ l ↔ k ∈ l') → l = l'
  | [], [], _, _, _ => rfl
  | [], y :: l', _, _, h => by have := (h y).mpr List.mem_cons_self; cases this
  | x :: l, [], _, _, h => by have := (h x).mp List.mem_cons_self; cases this
  | x :: l, y :: l', h1, h2, h => by
    obtain ⟨a1, a2⟩ := List.pairwise_cons.mp h1
    obtain ⟨b1, b2⟩ := List.pairwise_cons.mp h2
    have exy : x = y := by
      rcases List.mem_cons.mp ((h x).mp List.mem_cons_self) with e | e
      · exact e
      · rcases List.mem_cons.mp ((h y).mpr List.mem_cons_self) with e' | e'
        · exact e'.symm
        · have := b1 x e; have := a1 y e'; omega
    subst exy
    rw [sorted_unique a2 b2 fun k => ?_]
    constructor
    · intro hk
      rcases List.mem_cons.mp ((h k).mp (List.mem_cons_of_mem _ hk)) with e | e
      · have := a1 k hk; omega
      · exact e
    · intro hk
      rcases List.mem_cons.mp ((h k).mpr (List.mem_cons_of_mem _ hk)) with e | e
      · have := b1 k hk; omega
      · exact e
def rMkSet (K : PySem.W.Frag) (w : World) : List V → Hp → VK → Prop := fun xs H Q => ∃ (l : Addr) (ns : List Int), xs = [.ref l] ∧ (SqL K H l (ns.map V.int) ∨ SqT K H l (ns.map V.int)) ∧ ns.length < 64 ∧
  ∀ p n, H p = none → n ≤ ns.length → Q (.ref p) (upd H p (SetO w p (fun j => decide (j ∈ ns)) n))
section
variable {X : Cx} {c : Cc} {e : Expr} {es : List Expr}
theorem cr_setL (hc : X.calm = true) : CallR X (.type "set") (rMkSet X.K X.w) := by
  intro pins s σ H xs us Q I r h
  obtain ⟨l, ns, rfl, hq, h64, q⟩ := h
  rw [Vals.ref1 r]
  rcases hq with hq | hq
  · obtain ⟨its, rv, pl, hz⟩ := I.list hq
    refine set_of_list ns (I.ok.hd hc) pl.isList (by simpa using intsAre_of rv) (by have : scanBound = 4096 := rfl; omega) fun h' tk n R hn hk => ?_
    have hp : H s.heap.objs.size = none := I.hok.fresh (Nat.le_refl _)
    exact ⟨.ref _, upd H s.heap.objs.size (SetO X.w s.heap.objs.size (fun j => decide (j ∈ ns)) n), I.laid (t' := tk) hk (Nat.le_refl _) (setO_new R), rfl, q _ _ hp hn⟩
  · obtain ⟨its, rv, pl, hz⟩ := I.tuple hq
    refine set_of_tuple ns (I.ok.hd hc) pl (by simpa using intsAre_of rv) (by have : scanBound = 4096 := rfl; omega) fun h' tk n R hn hk => ?_
    have hp : H s.heap.objs.size = none := I.hok.fresh (Nat.le_refl _)
    exact ⟨.ref _, upd H s.heap.objs.size (SetO X.w s.heap.objs.size (fun j => decide (j ∈ ns)) n), I.laid (t' := tk) hk (Nat.le_refl _) (setO_new R), rfl, q _ _ hp hn⟩
def rSNe (w : World) : R2 := fun x y H Q => ∃ (a b : Addr) (S T : Int → Bool) (n m : Nat), x = .ref a ∧ y = .ref b ∧ H a = some (SetO w a S n) ∧ H b = some (SetO w b T m) ∧ ∀ r : Bool, (r = true ↔ ¬ ∀ k, S k = T k) → Q (.bl r) H
theorem op_sne (hu : X.A.units + 65 < cLine) : OpR X (compareOp .NotEq) (rSNe X.w) := by
  intro pins s σ H x y v u Q I rx ry h
  obtain ⟨a, b, S, T, n, m, rfl, rfl, ha, hb, q⟩ := h
  cases rx; cases ry
  have R := setO_get I ha
  have R' := setO_get I hb
  show wpAny (model X.prog X.w) X.A (richCompare .NotEq (.ref a) (.ref b)) (EP X pins σ Q) X.xe s
  refine wpAny_richCompare_same_room (R.setOf (P := X.prog)).typeIs (R'.setOf (P := X.prog)).typeIs F.slot_set_ne ?_ (by omega)
  exact call_sne R R' fun r hr => ⟨(by intro z; cases z), V.bl r, H, I, rfl, q r hr⟩
theorem op1_ss {w0 : World} : Op1 c (Is c) ssD (fun x H Q => rMkSet c.K w0 [x] H fun y H2 => rSortedSet w0 [y] H2 Q) := by
  intro w H x d1 d Q h1 e k
  unfold ssD at e
  split at e
  · rename_i xs
    split at e
    · rename_i ns ens
      split at e
      · rename_i hl
        cases e
        have := allI_some ens
        subst this
        cases h1 with
        | lst h r =>
          have := r.ints
          subst this
          refine ⟨_, ns, rfl, .inl h.sq, hl, fun p n hp hn => ⟨p, _, n, rfl, upd_same, by omega, fun ms p' hs hm hlen hp' => ?_⟩⟩
          have e2 : ms = ssI ns := sorted_unique hs (ssI_sorted ns) fun k => by rw [hm, ssI_mem]; simp
          subst e2
          have hp2 : upd H p (SetO w0 p (fun j => decide (j ∈ ns)) n) p' = none := hp'
          have sm1 : Same2 w H (wnew w p) (upd H p (SetO w0 p (fun j => decide (j ∈ ns)) n)) := Same2.new hp
          have sm2 : Same2 (wnew w p) (upd H p (SetO w0 p (fun j => decide (j ∈ ns)) n)) (wnew (wnew w p) p') (upd (upd H p (SetO w0 p (fun j => decide (j ∈ ns)) n)) p' (.lst ((ssI ns).map V.int))) := Same2.new hp2
          refine k _ _ (wnew (wnew w p) p') (fun a o ha => ?_) ?_
          · obtain ⟨z1, z2⟩ := sm1 a o ha
            obtain ⟨z3, z4⟩ := sm2 a o z1
            exact ⟨z3, z4.trans z2⟩
          · have ia : ∀ ms : List Int, IsAll c (wnew w p) (upd H p (SetO w0 p (fun j => decide (j ∈ ns)) n)) (ms.map V.int) (ms.map D.int) := fun ms => by
              induction ms with
              | nil => exact .nil
              | cons z ms ih => exact .cons (.int _) ih
            exact Is.newL (ia _) hp2
      · cases e
    · cases e
  · cases e
theorem its_sq {w : Wm} {H : Hp} {v : V} {d : D} {ns : List Int} (e : itsI d = some ns) (h : Is c w H v d) : ∃ a, v = .ref a ∧ (SqL c.K H a (ns.map V.int) ∨ SqT c.K H a (ns.map V.int)) := by
  unfold itsI at e
  split at e
  · have := allI_some e
    subst this
    cases h with
    | lst h r =>
      have := r.ints
      subst this
      exact ⟨_, rfl, .inl h.sq⟩
  · have := allI_some e
    subst this
    cases h with
    | tup h r =>
      have := r.ints
      subst this
      exact ⟨_, rfl, .inr h.sq⟩
  · cases e
theorem i_sne {w0 : World} {m1 m2 : M D} : ∀ σ H Q, tE c (bnd m1 fun x => bnd m2 fun y => ofO (sneD x y)) σ H Q →
    tOp (rSNe w0) (tCB (rMkSet c.K w0) (tCons (tE c m1) tNil)) (tCB (rMkSet c.K w0) (tCons (tE c m2) tNil)) σ H Q := fun σ H Q ⟨w, rs, s, d, s', R, e, k⟩ => by
  obtain ⟨d1, s1, e1, e5⟩ := bnd_some.mp e
  obtain ⟨d2, s2, e2, e6⟩ := bnd_some.mp e5
  obtain ⟨z, ez, ez'⟩ := ofO_some.mp e6
  injection ez' with z1 z2; subst z1 z2
  unfold sneD at ez
  split at ez
  · rename_i ns ms ens ems
    split at ez
    · rename_i hl
      cases ez
      refine ⟨w, rs, s, _, s1, R, e1, fun v1 H1 w1 R1 q1 st1 => ?_⟩
      obtain ⟨a1, rfl, h1⟩ := its_sq ens q1
      refine ⟨_, ns, rfl, h1, hl.1, fun p n hp hn => ?_⟩
      refine ⟨wnew w1 p, rs, s1, _, _, R1.new hp, e2, fun v2 H2 w2 R2 q2 st2 => ?_⟩
      obtain ⟨a2, rfl, h2⟩ := its_sq ems q2
      refine ⟨_, ms, rfl, h2, hl.2, fun p' n' hp' hn' => ?_⟩
      have hs := st2 p _ upd_same (.inl (by unfold wnew; rw [if_pos rfl]))
      have ne : p ≠ p' := fun z => by rw [z, hp'] at hs; cases hs.1
      refine ⟨p, p', _, _, n, n', rfl, rfl, by rw [upd_ne ne]; exact hs.1, upd_same, fun r hr => ?_⟩
      have er : r = !(ssI ns == ssI ms) := by
        refine Bool.eq_iff_iff.mpr ?_
        rw [hr, Bool.not_eq_true', beq_eq_false_iff_ne]
        refine not_congr ⟨fun z => sorted_unique (ssI_sorted _) (ssI_sorted _) fun k => ?_, fun z k => ?_⟩
        · rw [ssI_mem, ssI_mem]
          have := z k
          rw [decide_eq_decide] at this
          exact this
        · rw [decide_eq_decide, ← ssI_mem (l := ns), ← ssI_mem (l := ms), z]
      subst er
      exact k _ _ _ (R2.new hp') (.bl _) (((st1.trans (Step.new hp)).trans st2).trans (Step.new hp'))
    · cases ez
  · cases ez
/-! ### index -/
theorem firstEq_some {d : D} : ∀ {xs : List D} {n j : Nat}, firstEq d n xs = some j → ∃ i z, j = n + i ∧ xs[i]? = some z ∧ PyData.eqv z.py d.py = true ∧ ∀ m z', m < i → xs[m]? = some z' → PyData.eqv z'.py d.py = false
  | [], n, j, h => by simp [firstEq] at h
  | x :: xs, n, j, h => by
    rw [firstEq] at h
    split at h
    · rename_i hx
      cases h
      exact ⟨0, x, rfl, rfl, hx, fun m _ hm => absurd hm (Nat.not_lt_zero m)⟩
    · rename_i hx
      obtain ⟨i, z, e1, e2, e3, e4⟩ := firstEq_some h
      refine ⟨i + 1, z, by omega, by simpa using e2, e3, fun m z' hm hz => ?_⟩
      cases m with
      | zero => simp at hz; subst hz; simpa using hx
      | succ m => exact e4 m z' (by omega) (by simpa using hz)
theorem pys_get : ∀ (xs : List D) (i : Nat), (D.pys xs)[i]? = (xs[i]?).map D.py
  | [], i => by rw [D.pys]; simp
  | x :: xs, 0 => by rw [D.pys]; simp
  | x :: xs, i + 1 => by rw [D.pys]; simpa using pys_get xs i
theorem op2_idx : Op2 c (Is c) (Is c) idxD (fun x y H Q => tyV c.K "list" x H ∧ rIndexD c.K x [y] H Q) := by
  intro w H x y d1 d2 d Q h1 h2 e k
  unfold idxD at e
  split at e
  · rename_i d2 xs
    split at e
    · rename_i hs
      rw [Bool.and_eq_true] at hs
      obtain ⟨j, e1, rfl⟩ := Option.map_eq_some_iff.mp e
      obtain ⟨i, z, rfl, e3, e4, e5⟩ := firstEq_some e1
      have hp := h1.shaped hs.2
      rw [D.py] at hp hs
      cases h1 with
      | lst h r =>
        refine ⟨.inl ⟨rfl, _, h.sq⟩, _, y, _, D.pys xs, i, z.py, rfl, rfl, hp, h2.shaped hs.1, hs.2, hs.1, ?_, e4, fun m z' hm hz => ?_, ?_⟩
        · rw [pys_get, e3]; rfl
        · rw [pys_get] at hz
          obtain ⟨z0, q1, rfl⟩ := Option.map_eq_some_iff.mp hz
          exact e5 m z0 hm q1
        · rw [show 0 + i = i by omega] at k
          exact k _ H w (Same2.refl _ _) (.int _)
    · cases e
  · cases e
/-! ### slices -/
theorem IsAll.cut {w : Wm} {H : Hp} {vs : List V} {ds : List D} (r : IsAll c w H vs ds) (lo hi : Option Int) : IsAll c w H (cutV vs lo hi) (cutD ds lo hi) := by
  unfold cutV cutD
  rw [r.length]
  exact (r.drop _).take _
def tOI (c : Cc) (m : M (Option Int)) : TO := fun σ H Q => ∃ w rs s d s', Rel c w rs s σ H ∧ m s = some (d, s') ∧ ∀ H' w', Rel c w' rs s' σ H' → Step w H w' H' → Q d H'
theorem d_pno : PO X none (tOI c (ret none)) := ⟨fun pins s σ H Q I h => po_none.run pins s σ H Q I (by
  obtain ⟨w, rs, s, d, s', R, e, k⟩ := h
  cases ret_some.mp e
  exact k H w R (Step.refl _ _))⟩
theorem d_pyes {m : M D} (h : PE X e (tE c m)) : PO X (some e) (tOI c (mOpt m)) := ⟨fun pins s σ H Q I hh => (po_some h).run pins s σ H Q I (by
  obtain ⟨w, rs, s, d, s', R, e, k⟩ := hh
  obtain ⟨d1, s1, e1, e5⟩ := bnd_some.mp e
  split at e5
  · cases ret_some.mp e5
    refine ⟨w, rs, s, _, _, R, e1, fun v1 H1 w1 R1 q1 st1 => ?_⟩
    cases q1
    exact ⟨_, rfl, k H1 w1 R1 st1⟩
  · exact (fail_some.mp e5).elim)⟩
def rSlB (K : PySem.W.Frag) : V → Option Int → Option Int → Hp → VK → Prop := fun x lo hi H Q => rSlL K x lo hi H Q ∨ rSlA K x lo hi H Q
theorem cut_whole {α : Type} {xs : List α} {a b : Nat} (h : a = 0 ∧ b = xs.length) : (xs.drop a).take (b - a) = xs := by
  obtain ⟨rfl, rfl⟩ := h
  simp
theorem d_slice {m : M D} {ml mh : M (Option Int)} (h : PE X e (tSl (rSlB c.K) (tE c m) (tOI c ml) (tOI c mh))) : PE X e (tE c (bnd m fun x => bnd ml fun lo => bnd mh fun hi => ofO (slD x lo hi))) := pimp h fun σ H Q ⟨w, rs, s, d, s', R, e, k⟩ => by
  obtain ⟨d1, s1, e1, e⟩ := bnd_some.mp e
  obtain ⟨lo, s2, e2, e⟩ := bnd_some.mp e
  obtain ⟨hi, s3, e3, e⟩ := bnd_some.mp e
  obtain ⟨z, ez, ez'⟩ := ofO_some.mp e
  injection ez' with z1 z2; subst z1 z2
  refine ⟨w, rs, s, d1, s1, R, e1, fun v1 H1 w1 R1 q1 st1 => ⟨w1, rs, s1, lo, s2, R1, e2, fun H2 w2 R2 st2 => ⟨w2, rs, s2, hi, _, R2, e3, fun H3 w3 R3 st3 => ?_⟩⟩⟩
  have q3 := (q1.step st2).step st3
  cases q3 with
  | lst hh r =>
    simp only [slD] at ez
    cases ez
    exact .inl ⟨_, _, rfl, hh.sq, fun p hp => k _ _ _ (R3.new hp) (Is.newL (r.cut lo hi) hp) (((st1.trans st2).trans st3).trans (Step.new hp))⟩
  | tup hh r =>
    simp only [slD] at ez
    cases ez
    refine .inr ⟨_, _, rfl, hh.sq, fun hw => ?_, fun _ p hp => k _ _ _ (R3.new hp) (Is.newT (r.cut lo hi) hp) (((st1.trans st2).trans st3).trans (Step.new hp))⟩
    refine k _ _ _ R3 ?_ ((st1.trans st2).trans st3)
    rw [r.length] at hw
    unfold cutD
    rw [cut_whole hw]
    exact .tup hh r
  | _ => simp [slD] at ez
/-! ### sorted ints, a list turned -/
theorem insS_perm {x : Int} : ∀ {l : List Int}, (insS x l).Perm (x :: l)
  | [] => .refl _
  | y :: l => by
    unfold insS
    split
    · exact .refl _
    · exact ((insS_perm).cons y).trans (.swap _ _ _)
theorem insS_srt {x : Int} : ∀ {l : List Int}, l.Pairwise (· ≤ ·) → (insS x l).Pairwise (· ≤ ·)
  | [], _ => by simp [insS]
  | y :: l, h => by
    rw [List.pairwise_cons] at h
    unfold insS
    split
    · rename_i hx
      refine List.pairwise_cons.mpr ⟨fun z hz => ?_, List.pairwise_cons.mpr h⟩
      rcases List.mem_cons.mp hz with rfl | hz
      · exact hx
      · exact Int.le_trans hx (h.1 z hz)
    · rename_i hx
      refine List.pairwise_cons.mpr ⟨fun z hz => ?_, insS_srt h.2⟩
      rcases List.mem_cons.mp (insS_perm.mem_iff.mp hz) with rfl | hz
      · omega
      · exact h.1 z hz
theorem srtI_perm : ∀ l : List Int, (srtI l).Perm l
  | [] => .refl _
  | x :: l => (insS_perm).trans ((srtI_perm l).cons x)
theorem srtI_srt : ∀ l : List Int, (srtI l).Pairwise (· ≤ ·)
  | [] => .nil
  | x :: l => insS_srt (srtI_srt l)
theorem srt_unique : ∀ {a b : List Int}, a.Perm b → a.Pairwise (· ≤ ·) → b.Pairwise (· ≤ ·) → a = b
  | [], b, p, _, _ => p.nil_eq
  | x :: a, b, p, ha, hb => by
    match b, p, hb with
    | [], p, _ => exact absurd p.length_eq (by simp)
    | y :: b, p, hb =>
      rw [List.pairwise_cons] at ha hb
      have h1 : x ≤ y := by
        rcases List.mem_cons.mp (p.mem_iff.mpr List.mem_cons_self) with e | e
        · omega
        · exact ha.1 y e
      have h2 : y ≤ x := by
        rcases List.mem_cons.mp (p.mem_iff.mp List.mem_cons_self) with e | e
        · omega
        · exact hb.1 x e
      have e : x = y := by omega
      subst e
      rw [srt_unique (p.cons_inv) ha.2 hb.2]
theorem IsAll.ofInts {w : Wm} {H : Hp} : ∀ (ns : List Int), IsAll c w H (ns.map V.int) (ns.map D.int)
  | [] => .nil
  | n :: ns => .cons (.int n) (IsAll.ofInts ns)
theorem op1_srt : Op1 c (Is c) srtD (fun x H Q => rSortedI c.K [x] H Q) := by
  intro w H x d1 d Q h1 e k
  unfold srtD at e
  split at e
  · rename_i xs
    split at e
    · rename_i ns ens
      cases e
      have := allI_some ens
      subst this
      cases h1 with
      | lst h r =>
        have := r.ints
        subst this
        refine ⟨_, ns, rfl, h.sq, fun ns' p hp hs hn => ?_⟩
        rw [srt_unique (hp.trans (srtI_perm ns).symm) hs (srtI_srt ns)]
        exact k _ _ _ (Same2.new hn) (Is.newL (.ofInts _) hn)
    · cases e
  · cases e
theorem d_rev {m : M D} (h : PE X e (tRevL c.K (tE c m))) : PE X e (tE c (bnd m fun x => ofO (revD x))) := pimp h fun σ H Q ⟨w, rs, s, d, s', R, e, k⟩ => by
  obtain ⟨d1, s1, e1, e⟩ := bnd_some.mp e
  obtain ⟨z, ez, ez'⟩ := ofO_some.mp e
  injection ez' with z1 z2; subst z1 z2
  refine ⟨w, rs, s, d1, _, R, e1, fun v1 H1 w1 R1 q1 st1 => ?_⟩
  cases q1 with
  | lst hh r =>
    simp only [revD] at ez
    cases ez
    exact ⟨_, _, rfl, hh.sq, fun p hp => k _ _ _ (R1.new hp) (Is.newL r.reverse hp) (st1.trans (Step.new hp))⟩
  | _ => simp [revD] at ez
/-! ### isinstance with a tuple of types, with an own class -/
def Ty.names : List Ty → List V := fun ts => ts.map fun t => V.ty t.name
theorem isi_base {w : Wm} {H : Hp} {x : V} {d : D} {t : Ty} {b : Bool} (h : Is c w H x d) (e : isiD d t = some b) : ∃ n, TyOf c.K H x (.type n) ∧ ∀ t b, isiD d t = some b → kitB n t.name = some b := by
  cases h with
  | non => exact ⟨_, .non, fun t b e => by cases t <;> simp only [isiD] at e <;> cases e <;> decide +kernel⟩
  | bl z => exact ⟨_, .bl z, fun t b e => by cases t <;> simp only [isiD] at e <;> cases e <;> decide +kernel⟩
  | int z => exact ⟨_, .int z, fun t b e => by cases t <;> simp only [isiD] at e <;> cases e <;> decide +kernel⟩
  | str z => exact ⟨_, .str z, fun t b e => by cases t <;> simp only [isiD] at e <;> cases e <;> decide +kernel⟩
  | lst h r => exact ⟨_, .lst h.2, fun t b e => by cases t <;> simp only [isiD] at e <;> cases e <;> decide +kernel⟩
  | tup h r => exact ⟨_, .tup h.2, fun t b e => by cases t <;> simp only [isiD] at e <;> cases e <;> decide +kernel⟩
  | obj => simp only [isiD] at e; cases e
  | scr => simp only [isiD] at e; cases e
theorem kit_all {n : String} {d : D} (h : ∀ t b, isiD d t = some b → kitB n (Ty.name t) = some b) : ∀ {ts : List Ty} {b : Bool}, isiTD d ts = some b → PySem.W.kitAny c.K (.type n) (ts.map fun t => Value.type t.name) = some b
  | [], b, e => by simp only [isiTD] at e; cases e; rfl
  | t :: ts, b, e => by
    rw [isiTD] at e
    split at e
    · rename_i e1
      cases e
      exact kitAny_cons (kit_ty (h t _ e1)) (fun z => by cases z) fun _ => rfl
    · rename_i e1
      exact kitAny_cons (kit_ty (h t _ e1)) (fun _ => kit_all h e) fun z => by cases z
    · cases e
theorem pair_tys : ∀ ts : List Ty, Paired ClsV (Ty.names ts) (ts.map fun t => Value.type t.name)
  | [] => .nil
  | t :: ts => .cons (.ty _) (pair_tys ts)
theorem op1_isiT (ts : List Ty) (hne : ts ≠ []) (hts : (Ty.names ts).length ≤ sizeLine) : Op1 c (Is c) (fun d => (isiTD d ts).map .bl) (fun x H Q => (Ty.names ts).length ≤ sizeLine ∧ ∀ p, H p = none → rIsiT c.K [x, .ref p] (upd H p (.tup (Ty.names ts))) Q) := by
  intro w H x d1 d Q h1 e k
  obtain ⟨b, e1, rfl⟩ := Option.map_eq_some_iff.mp e
  have hsome : ∃ t b', isiD d1 t = some b' := by
    cases ts with
    | nil => exact absurd rfl hne
    | cons t ts =>
      rw [isiTD] at e1
      split at e1
      · exact ⟨t, _, by assumption⟩
      · exact ⟨t, _, by assumption⟩
      · cases e1
  obtain ⟨t, b', e2⟩ := hsome
  refine ⟨hts, fun p hp => ?_⟩
  have h2 := h1.step (Step.new (o := .tup (Ty.names ts)) hp)
  obtain ⟨n, z1, z2⟩ := isi_base h2 e2
  exact ⟨x, p, _, _, _, b, rfl, upd_same, pair_tys ts, .base z1, kit_all z2 e1, k _ _ (wnew w p) (Same2.new hp) (.bl b)⟩
/-! ### an own len, an own == -/
abbrev noX : XK := fun _ _ _ => False
theorem pass_no {X : Cx} : Passes L2.CX0 X noX := fun _ _ _ _ _ _ _ z => z.elim
def rLenO (C : Addr) (sp : Sp) : List V → Hp → VK → Prop := fun xs H Q => ∃ (a dx : Addr) (fs : List (Str × V)), xs = [.ref a] ∧ H a = some (.ins C dx fs) ∧ sp [.ref a] H (fun v H' => ∃ n : Int, v = .int n ∧ 0 ≤ n ∧ n < 2 ^ 63 ∧ Q (.int n) H') noX
theorem env_in {X : Cx} {pins : List (Addr × Obj)} {σ : L2.St} {H : Hp} {s : Shared} (I : L2.Inv X pins σ H s) : Env0 X.prog X.w X.K X.mg X.base X.A.in1 X.stack s H := by
  have e := I.env0
  exact ⟨e.frames, e.mod, e.bs, e.bsz, e.funs, e.frf, e.hok, e.bare⟩
theorem call_lenO {C f : Addr} {fd : FuncData} {ps : List Str} {sp : Sp} {k : Nat} (F : FnOk X.prog X.w X.K X.mg X.base L2.CX0 k f fd ps sp) (hr : Room (k + 1) X.A) (hs : PySem.W.findIn X.K (.ref C) "__len__" = some (some (.ref f))) (hf : PySem.W.isFn X.K (.ref f) = true) (hb : Binds X.K fd ps []) :
    CallR X (.builtin "len") (rLenO C sp) := by
  intro pins s σ H xs us Q I r h
  obtain ⟨a, dx, fs, rfl, ha, hsp⟩ := h
  rw [Vals.ref1 r]
  obtain ⟨mA, J, _⟩ := ins_get I.hok ha
  obtain ⟨od, J, _⟩ := J.look
  obtain ⟨m, hF⟩ := I.fr
  refine PySem.W.len_K hF I.ok.mod.kin J hs hf ?_
  have hl := F.len _ _ _ _ hsp
  refine wpAny_call (codeAny_mono (F.run X.A.in1 X.stack s H ⟨[.ref a], []⟩ [.ref a] [.ref a] _ noX hr.in1 (env_in I) (by
    have := hb s [.ref a] I.kIn (by simpa using hl)
    simpa using this) (.cons rfl .nil) hsp) fun r s' hq => ?_)
  cases r with
  | error e => exact pass_no pins σ H s e s' I hq
  | ok fl =>
    cases fl with
    | ret u =>
      obtain ⟨z, H', I', rz, n, rfl, h0, h1, q⟩ := I.after hq
      obtain ⟨t, rfl⟩ := rz
      exact ⟨⟨h0, h1⟩, .int n, H', I'.tok _, ⟨_, rfl⟩, q⟩
    | next => exact False.elim hq
    | brk => exact False.elim hq
    | cont => exact False.elim hq
def rEqO (C : Addr) (sp : Sp) : R2 := fun x y H Q => ∃ (a b dx dy : Addr) (fs gs : List (Str × V)), x = .ref a ∧ y = .ref b ∧ H a = some (.ins C dx fs) ∧ H b = some (.ins C dy gs) ∧ sp [.ref a, .ref b] H (fun v H' => ∃ r : Bool, v = .bl r ∧ Q (.bl r) H') noX
theorem op_eqO {C f : Addr} {fd : FuncData} {ps : List Str} {sp : Sp} {k : Nat} (F : FnOk X.prog X.w X.K X.mg X.base L2.CX0 k f fd ps sp) (hr : Room k X.A) (hs : PySem.W.findIn X.K (.ref C) "__eq__" = some (some (.ref f))) (hf : PySem.W.isFn X.K (.ref f) = true) (hb : Binds X.K fd ps []) :
    OpR X (compareOp .Eq) (rEqO C sp) := by
  intro pins s σ H x y v u Q I rx ry h
  obtain ⟨a, b, dx, dy, fs, gs, rfl, rfl, ha, hb', hsp⟩ := h
  cases rx; cases ry
  obtain ⟨mA, J, _⟩ := ins_get I.hok ha
  obtain ⟨mB, J', _⟩ := ins_get I.hok hb'
  obtain ⟨od, J, _⟩ := J.look
  obtain ⟨od', J', _⟩ := J'.look
  obtain ⟨m, hF⟩ := I.fr
  show wpAny (model X.prog X.w) X.A (richCompare .Eq (.ref a) (.ref b)) (EP X pins σ Q) X.xe s
  refine PySem.W.cmp_K (op := .Eq) (tb := .ref C) hr.units0 hF I.ok.mod.kin J J'.type (by simp [PySem.W.notFirst]) hs hf ?_
  have hl := F.len _ _ _ _ hsp
  refine wpAny_call (codeAny_mono (F.run X.A X.stack s H ⟨[.ref a, .ref b], []⟩ [.ref a, .ref b] [.ref a, .ref b] _ noX hr I.env0 (by
    have := hb s [.ref a, .ref b] I.kIn (by simpa using hl)
    simpa using this) (.cons rfl (.cons rfl .nil)) hsp) fun r s' hq => ?_)
  cases r with
  | error e => exact pass_no pins σ H s e s' I hq
  | ok fl =>
    cases fl with
    | ret u =>
      obtain ⟨z, H', I', rz, n, rfl, q⟩ := I.after hq
      cases rz
      exact ⟨.bl n, H', I', rfl, q⟩
    | next => exact False.elim hq
    | brk => exact False.elim hq
    | cont => exact False.elim hq
/-! ### keywords alone -/
theorem perm_rel (π : List Nat) {vs : List V} {us : List Value} (r : Vals vs us) : Vals (perm π vs) (perm π us) := by
  unfold perm
  induction π with
  | nil => exact .nil
  | cons i π ih =>
    rw [List.filterMap_cons, List.filterMap_cons]
    cases ev : vs[i]? with
    | none =>
      have : us[i]? = none := by
        rw [List.getElem?_eq_none_iff] at ev ⊢
        rw [← r.length]; exact ev
      rw [this]
      exact ih
    | some v =>
      obtain ⟨u, e1, e2⟩ := r.get ev
      rw [e1]
      exact .cons e2 ih
theorem pe_callK0 {k : Nat} {f : Addr} {fd : FuncData} {ps ks : List Str} {sp : Sp} {x : Str} {p pos : Pos} {kws : List Keyword} {tk : TA} {g : List Value → List Value → List Value} {gV : List V → List V → List V} (F : FnOk X.prog X.w X.K X.mg X.base L2.CX0 k f fd ps sp) (hr : Room k X.A) (hg : Gl X x) (hm : X.mg x = some (.ref f)) (hk : PySem.W.keepIn X.K (.ref f) = true)
    (hb : KBn X.K fd ps 0 ks g gV) (hkw : PK X kws tk) (hall : (backToKw pos (keywordEach kws X.env)).all (·.1.isSome) = true) (hks : (backToKw pos (keywordEach kws X.env)).filterMap (·.1) = ks)
    (hdb : (x == ("__debug__" : Str)) = false) (hno : (backToKw pos (keywordEach kws X.env)).any (·.1.isNone) = false) : PE X (.Call (.Name x p) [] kws pos) (tCallN 0 ks.length sp gV noX tNil tk) := by
  refine ⟨fun pins s σ H Q I h => ?_⟩
  refine wpAny_Call_Name_kw (ld_glob I hg hm ?_ hdb)
  refine PySem.W.callWith_KW0 (h₀ := X.base) I.ok.mod.kin hk hall ?_ (by rw [hno]; rfl)
  refine thn (hkw.run pos pins s σ H _ I h) fun ws s2 ⟨zs, H2, I2, rz, l1, l2, q2⟩ => ⟨I2.kIn, ?_⟩
  rw [hks]
  exact run_fnN (us := []) (vs := []) F hr hb pass_no I2 .nil rz rfl l2 q2
/-! ### what a call does, from any arguments -/
theorem call_core {n f : Nat} {Γ : Env} {w1 : Wm} {rs : List V} {s1 : St} {σ : L2.St} {H1 : Hp} {vs : List V} {sl : List Slot} {o : OD} {S' : List OD} {Q : VK} {E : XK} (R1 : Rel c w1 rs s1 σ H1) (q1 : ArgsOk c w1 rs H1 vs sl) (hn : sl.length = n) (ec : Γ.call f sl s1.S = some (o, S'))
    (k : ∀ v H2 w2, Rel c w2 rs { s1 with S := S' } σ H2 → Is c w2 H2 v o.toD → Step w1 H1 w2 H2 → Q v H2) : spD c n Γ.call f vs H1 Q E := by
  refine ⟨wcall w1, rs, s1.S, sl, o, S', hn, q1.stepN step_call.n, R1.cells, fun a i p z => ?_, ec, fun v H2 wx cs q st => ?_⟩
  · unfold wcall at z
    split at z <;> first | cases z | (rename_i h1 h2; exact h1 i p z)
  · exact k v H2 _ (R1.call st cs) (q.freeG (fun a o h z => ⟨h, wback_no z⟩) fun a o p h z => ⟨h, wback_res z⟩) (wback_step st)
theorem doCall_leaf {Γ : Env} {f : Nat} {sl : List Slot} {s s' : St} {o : OD} (h : doCall Γ f sl s = some (o, s')) : ∃ S', Γ.call f sl s.S = some (o, S') ∧ s' = { s with S := S' } := by
  unfold doCall at h
  split at h
  · rename_i o' S' ec
    cases h
    exact ⟨S', ec, rfl⟩
  · cases h
theorem i_lenO {k f : Nat} {Γ : Env} {m : M D} : ∀ σ H Q, tE c (bnd m fun x => lenM Γ k f x) σ H Q → tCB (rLenO (c.cl k) (spD c 1 Γ.call f)) (tCons (tE c m) tNil) σ H Q := fun σ H Q ⟨w, rs, s, d, s', R, e, kq⟩ => by
  obtain ⟨d1, s1, e1, e2⟩ := bnd_some.mp e
  refine ⟨w, rs, s, d1, s1, R, e1, fun v1 H1 w1 R1 q1 st1 => ?_⟩
  unfold lenM at e2
  split at e2
  · rename_i q fs
    split at e2
    · rename_i hq
      subst hq
      obtain ⟨o, s2, e3, e4⟩ := bnd_some.mp e2
      obtain ⟨S', ec, rfl⟩ := doCall_leaf e3
      split at e4
      · rename_i n
        split at e4
        · rename_i hn
          cases ret_some.mp e4
          have q1' := q1
          cases q1 with
          | obj h1 h2 h3 r =>
            refine ⟨_, _, _, rfl, h2, call_core R1 (.cons (show ArgOk c w1 rs H1 _ (.val _) from q1') .nil) rfl ec fun v H2 w2 R2 q2 st2 => ?_⟩
            cases q2
            exact ⟨n, rfl, hn.1, hn.2, kq _ H2 w2 R2 (.int n) (st1.trans st2)⟩
        · exact (fail_some.mp e4).elim
      · exact (fail_some.mp e4).elim
    · exact (fail_some.mp e2).elim
  · exact (fail_some.mp e2).elim
theorem i_eqO {k f : Nat} {Γ : Env} {m m' : M D} : ∀ σ H Q, tE c (bnd m fun x => bnd m' fun y => eqM Γ k f x y) σ H Q → tOp (rEqO (c.cl k) (spD c 2 Γ.call f)) (tE c m) (tE c m') σ H Q := fun σ H Q ⟨w, rs, s, d, s', R, e, kq⟩ => by
  obtain ⟨d1, s1, e1, e2⟩ := bnd_some.mp e
  obtain ⟨d2, s2, e2, e3⟩ := bnd_some.mp e2
  refine ⟨w, rs, s, d1, s1, R, e1, fun v1 H1 w1 R1 q1 st1 => ⟨w1, rs, s1, d2, s2, R1, e2, fun v2 H2 w2 R2 q2 st2 => ?_⟩⟩
  have q1 := q1.step st2
  unfold eqM at e3
  split at e3
  · rename_i q fs q' gs
    split at e3
    · rename_i hq
      obtain ⟨rfl, rfl⟩ := hq
      obtain ⟨o, s3, e4, e5⟩ := bnd_some.mp e3
      obtain ⟨S', ec, rfl⟩ := doCall_leaf e4
      split at e5
      · rename_i b
        cases ret_some.mp e5
        have q1' := q1
        have q2' := q2
        cases q1 with
        | obj h1 h2 h3 r =>
          cases q2 with
          | obj g1 g2 g3 r' =>
            refine ⟨_, _, _, _, _, _, rfl, rfl, h2, g2, call_core R2 (.cons (show ArgOk c w2 rs H2 _ (.val _) from q1') (.cons (show ArgOk c w2 rs H2 _ (.val _) from q2') .nil)) rfl ec fun v H3 w3 R3 q3 st3 => ?_⟩
            cases q3
            exact ⟨b, rfl, kq _ H3 w3 R3 (.bl b) ((st1.trans st2).trans st3)⟩
      · exact (fail_some.mp e5).elim
    · exact (fail_some.mp e3).elim
  · exact (fail_some.mp e3).elim
theorem IsAll.args {w : Wm} {rs : List V} {H : Hp} : ∀ {vs : List V} {ds : List D}, IsAll c w H vs ds → ArgsOk c w rs H vs (ds.map .val)
  | _, _, .nil => .nil
  | _, _, .cons h r => .cons h (IsAll.args r)
theorem IsAll.perm {w : Wm} {H : Hp} {vs : List V} {ds : List D} (r : IsAll c w H vs ds) (π : List Nat) : IsAll c w H (perm π vs) (Dm.perm π ds) := by
  unfold Dm.perm
  induction π with
  | nil => exact .nil
  | cons i π ih =>
    rw [List.filterMap_cons, List.filterMap_cons]
    cases ev : ds[i]? with
    | none =>
      have : vs[i]? = none := by
        rw [List.getElem?_eq_none_iff] at ev ⊢
        rw [r.length]; exact ev
      rw [this]
      exact ih
    | some d =>
      obtain ⟨v, e1, e2⟩ := r.get ev
      rw [e1]
      exact .cons e2 ih
theorem i_callK {n nk f : Nat} {Γ : Env} {π : List Nat} {ms : M (List D)} (hnk : ∀ s ds s', ms s = some (ds, s') → ds.length = nk) :
    ∀ σ H Q, tE c (bnd ms fun ds => callKM Γ f n π ds) σ H Q → tCallN 0 nk (spD c n Γ.call f) (fun _ zs => perm π zs) noX tNil (tL c ms) σ H Q := fun σ H Q ⟨w, rs, s, d, s', R, e, kq⟩ => by
  obtain ⟨ds, s1, e1, e2⟩ := bnd_some.mp e
  refine ⟨w, rs, s, ds, s1, R, e1, fun vs H1 w1 R1 q1 st1 => ⟨rfl, by rw [q1.length]; exact hnk _ _ _ e1, ?_⟩⟩
  unfold callKM at e2
  split at e2
  · rename_i hn
    obtain ⟨o, s2, e3, e4⟩ := bnd_some.mp e2
    obtain ⟨S', ec, rfl⟩ := doCall_leaf e3
    obtain ⟨z, ez, ez'⟩ := ofO_some.mp e4
    injection ez' with z1 z2; subst z1 z2
    rw [leafD_eq] at ez
    cases ez
    exact call_core R1 (q1.perm π).args (by rw [List.length_map]; exact hn) ec fun v H2 w2 R2 q2 st2 => kq v H2 w2 R2 q2 (st1.trans st2)
  · exact (fail_some.mp e2).elim
end
end Dm

/-! The D machine: all expressions. -/
namespace Dm
open PySem L2 PyProof.Rows

structure FI where
  x : Str
  ps : List Str
  pl : Bool
structure Tb where
  globs : List Str
  funs : List FI
  clss : List (Str × Nat)
  kws : List (Nat × List Str × List Nat)
  lens : List (Nat × Nat)
  eqs : List (Nat × Nat)
  inss : List (Nat × Str)
def bltNames : List Str := ["sorted", "set", "len", "abs", "max", "min", "int", "all", "any", "sum", "tuple", "list", "isinstance", "bool", "str", "range", "enumerate", "divmod"]
def As.len : As → Nat
  | .nil => 0
  | .val _ as => as.len + 1
  | .share _ _ _ as => as.len + 1
def vis (sc : Scope) (x : Str) : Bool := match sc.names.lookup x with | some .local => true | some .cell => true | some .free => true | _ => false
def glb (sc : Scope) (x : Str) : Bool := match sc.names.lookup x with | some .globalImplicit => true | _ => false
def okN (N : List Str) (sc : Scope) (i : Nat) (x : Str) : Bool := decide (N[i]? = some x) && vis sc x && !(x == ("__debug__" : Str)) && !(x == ("__classdict__" : Str))
def E.noIfe : E → Bool
  | .ife .. => false
  | _ => true
def E.base : E → Bool
  | .call _ _ _ .nil _ => false
  | .new _ _ _ _ .nil _ => false
  | .callK .. => false
  | _ => true
def Ks.nms : Ks → List Str
  | .nil => []
  | .cons x _ _ ks => x :: ks.nms
def isTp : Tg → Bool
  | .tp .. => true
  | _ => false
def okFn (tb : Tb) (f : Nat) (x : Str) (l : Nat) : Bool := match tb.funs[f]? with | some fi => fi.pl && (decide (fi.x = x) && decide (fi.ps.length = l)) | none => false
def okCl (tb : Tb) (k : Nat) (x : Str) (f l : Nat) : Bool := match tb.clss[k]?, tb.funs[f]? with
  | some (y, g), some fi => decide (y = x) && decide (g = f) && decide (fi.ps.length = l + 1)
  | _, _ => false
def okPs (tb : Tb) (f l : Nat) : Bool := match tb.funs[f]? with | some fi => decide (fi.ps.length = l) | none => false
def okOp (N : List Str) (sc : Scope) (b : Bool) : E → Bool
  | .bv i x _ => okN N sc i x
  | _ => b
def okNot (op : UnaryOp) (b : Bool) : Bool := match op with | .Not => b | _ => true
mutual
def okE (tb : Tb) (N : List Str) (sc : Scope) : E → Bool
  | .var i x _ => okN N sc i x
  | .bv _ _ _ => false
  | .con c _ _ => (conD c).isSome
  | .glo g x _ => decide (tb.globs[g]? = some x) && glb sc x && !(x == ("__debug__" : Str))
  | .tup es _ _ => okEs tb N sc es
  | .lst es _ => okEs tb N sc es
  | .bin a _ b _ => okE tb N sc a && okE tb N sc b
  | .una op a _ => okE tb N sc a && okNot op a.noIfe
  | .bop _ e es _ => okE tb N sc e && e.noIfe && okB tb N sc es
  | .cmp a _ b _ => okOp N sc (okE tb N sc a) a && okOp N sc (okE tb N sc b) b
  | .cmp2 a _ b _ c _ => okE tb N sc a && okE tb N sc b && okE tb N sc c
  | .ife c a b _ => okE tb N sc c && c.noIfe && okE tb N sc a && okE tb N sc b
  | .sub a i _ => okOp N sc (okE tb N sc a) a && okE tb N sc i
  | .att a _ _ _ => okOp N sc (okE tb N sc a && a.base) a
  | .bi1 b _ e _ => decide (b ≠ .max2) && decide (b ≠ .min2) && decide (b ≠ .divmod) && glb sc b.nm && okOp N sc (okE tb N sc e) e
  | .bi2 b _ e e' _ => (decide (b = .max2) || (decide (b = .min2) || decide (b = .divmod))) && glb sc b.nm && okE tb N sc e && okE tb N sc e'
  | .conv b _ e _ => (decide (b = .list) || decide (b = .tuple)) && glb sc b.nm && okE tb N sc e
  | .mth0 m j x _ p2 p3 => okN N sc j x && (p2.endLine == p3.line) && (decide (m = .pop) || decide (m = .clear) || decide (m = .reverse))
  | .mth1 m j x _ p2 e p3 => okN N sc j x && (p2.endLine == p3.line) && (decide (m = .append) || decide (m = .extend) || decide (m = .pop)) && okE tb N sc e
  | .isi a t _ _ _ => glb sc "isinstance" && glb sc t.nm && okOp N sc (okE tb N sc a) a
  | .call f x _ as _ => (match tb.funs[f]? with | some fi => fi.pl && (decide (fi.x = x) && decide (fi.ps.length = as.len)) | none => false) && glb sc x && !(x == ("__debug__" : Str)) && okAs tb N sc as
  | .callT f x _ g y _ as _ _ => okFn tb f x 1 && okFn tb g y as.len && glb sc x && glb sc y && !(x == ("__debug__" : Str)) && !(y == ("__debug__" : Str)) && decide (as.len ≠ 0) && okAs tb N sc as
  | .new k f x _ as _ => okCl tb k x f as.len && glb sc x && !(x == ("__debug__" : Str)) && okAs tb N sc as
  | .comp elt t it ifs scope own _ => blkC N sc scope own && (t.ids.all fun i => (own.map (·.2)).contains i) && okT N (relS scope sc) (fun x => scope.names.lookup x == some .cell) t && okWk tb N sc (isTp t) it && okIfs tb N (relS scope sc) ifs && okE tb N (relS scope sc) elt
  | .compN _ .nil _ _ _ => false
  | .compN elt (.cons t it ifs cs) scope own _ => blkC N sc scope own && ((t.ids ++ cs.ids).all fun i => (own.map (·.2)).contains i) && okT N (relS scope sc) (fun x => scope.names.lookup x == some .cell) t && okWk tb N sc (isTp t) it && okIfs tb N (relS scope sc) ifs && okCs tb N (relS scope sc) (fun x => scope.names.lookup x == some .cell) cs && okE tb N (relS scope sc) elt
  | .ss _ _ e _ _ => glb sc "sorted" && glb sc "set" && okE tb N sc e
  | .sne _ a _ _ b _ _ => glb sc "set" && okE tb N sc a && okE tb N sc b
  | .idx a p e q => okE tb N sc a && a.base && (p.endLine == q.line) && okE tb N sc e
  | .sl a lo hi _ _ => okE tb N sc a && okEO tb N sc lo && okEO tb N sc hi
  | .lrng _ _ e _ _ => glb sc "list" && glb sc "range" && okE tb N sc e
  | .isiT a ts _ _ _ _ => glb sc "isinstance" && (ts.all fun t => glb sc t.1.nm) && okE tb N sc a && decide (ts ≠ []) && decide (ts.length ≤ 20)
  | .isiC a k x _ _ _ => glb sc "isinstance" && glb sc x && !(x == ("__debug__" : Str)) && decide ((k, x) ∈ tb.inss) && okE tb N sc a
  | .callK f x _ ks n π _ => okFn tb f x n && glb sc x && !(x == ("__debug__" : Str)) && decide ((f, ks.nms, π) ∈ tb.kws) && okKs tb N sc ks
  | .lenO k f _ e _ => glb sc "len" && decide ((k, f) ∈ tb.lens) && okPs tb f 1 && okE tb N sc e
  | .eqO k f a b _ => decide ((k, f) ∈ tb.eqs) && okPs tb f 2 && okE tb N sc a && okE tb N sc b
  | .srt _ e _ => glb sc "sorted" && okE tb N sc e
  | .rev a _ _ _ _ _ => okE tb N sc a
  | .nna j x _ _ _ _ _ _ _ _ _ => okN N sc j x
def okEO (tb : Tb) (N : List Str) (sc : Scope) : EO → Bool
  | .no => true
  | .yes e => okE tb N sc e
def okKs (tb : Tb) (N : List Str) (sc : Scope) : Ks → Bool
  | .nil => true
  | .cons _ e _ ks => okE tb N sc e && okKs tb N sc ks
def okCs (tb : Tb) (N : List Str) (sc : Scope) (fnb : Str → Bool) : Cs → Bool
  | .nil => true
  | .cons t it ifs cs => okT N sc fnb t && okWk tb N sc (isTp t) it && okIfs tb N sc ifs && okCs tb N sc fnb cs
def okEs (tb : Tb) (N : List Str) (sc : Scope) : Es → Bool
  | .nil => true
  | .cons e es => okE tb N sc e && okEs tb N sc es
def okB (tb : Tb) (N : List Str) (sc : Scope) : Es → Bool
  | .nil => true
  | .cons e es => okE tb N sc e && e.noIfe && okB tb N sc es
def okIfs (tb : Tb) (N : List Str) (sc : Scope) : Es → Bool
  | .nil => true
  | .cons e .nil => okE tb N sc e && e.noIfe
  | _ => false
def okAs (tb : Tb) (N : List Str) (sc : Scope) : As → Bool
  | .nil => true
  | .val e as => okE tb N sc e && okAs tb N sc as
  | .share i x _ as => okN N sc i x && okAs tb N sc as
def okWk (tb : Tb) (N : List Str) (sc : Scope) (tp : Bool) : Wk → Bool
  | .e a => okE tb N sc a
  | .rng a _ _ => glb sc "range" && okE tb N sc a
  | .rng2 a b _ _ => glb sc "range" && okE tb N sc a && okE tb N sc b
  | .enu a _ _ => glb sc "enumerate" && okE tb N sc a && tp
end
structure Gd (X : Cx) (c : Cc) (Γ : Env) (tb : Tb) (n : Nat) : Prop where
  K : X.K = c.K
  nd : X.N.Nodup
  calm : X.calm = true
  room : Room (2 * n + 1) X.A
  fnm : c.fn = Γ.fn
  cls : ∀ q, Γ.fn q ≠ [] → ClsOk c q
  blt : ∀ x ∈ bltNames, X.mg x = none
  glob : ∀ g x d, tb.globs[g]? = some x → Γ.glob g = some d → ∃ u v, X.mg x = some u ∧ L2.RelV v u ∧ ∀ w H, Is c w H v d
  fns : ∀ (f : Nat) (fi : FI), tb.funs[f]? = some fi → fi.pl = true → ∃ fa fd, X.mg fi.x = some (.ref fa) ∧ PySem.W.keepIn X.K (.ref fa) = true ∧ Binds X.K fd fi.ps [] ∧ FnOk X.prog X.w X.K X.mg X.base L2.CX0 (2 * n) fa fd fi.ps (spD c fi.ps.length Γ.call f) ∧ ∀ ks π, (f, ks, π) ∈ tb.kws → KBn X.K fd fi.ps 0 ks (fun _ ws => perm π ws) (fun _ zs => perm π zs)
  lens : ∀ (k f : Nat) (fi : FI), (k, f) ∈ tb.lens → tb.funs[f]? = some fi → ∃ fa fd, PySem.W.findIn X.K (.ref (c.cl k)) "__len__" = some (some (.ref fa)) ∧ PySem.W.isFn X.K (.ref fa) = true ∧ Binds X.K fd fi.ps [] ∧ FnOk X.prog X.w X.K X.mg X.base L2.CX0 (2 * n) fa fd fi.ps (spD c fi.ps.length Γ.call f)
  eqs : ∀ (k f : Nat) (fi : FI), (k, f) ∈ tb.eqs → tb.funs[f]? = some fi → ∃ fa fd, PySem.W.findIn X.K (.ref (c.cl k)) "__eq__" = some (some (.ref fa)) ∧ PySem.W.isFn X.K (.ref fa) = true ∧ Binds X.K fd fi.ps [] ∧ FnOk X.prog X.w X.K X.mg X.base L2.CX0 (2 * n) fa fd fi.ps (spD c fi.ps.length Γ.call f)
  inss : ∀ (k : Nat) (x : Str), (k, x) ∈ tb.inss → X.mg x = some (.ref (c.cl k)) ∧ C8.InsC X.K (c.cl k)
  mks : ∀ (k : Nat) (x : Str) (f : Nat) (fi : FI), tb.clss[k]? = some (x, f) → tb.funs[f]? = some fi → ∃ fa fd, X.mg x = some (.ref (c.cl k)) ∧ Mk X.K (c.cl k) fa ∧ Binds X.K fd fi.ps [] ∧ FnOk X.prog X.w X.K X.mg X.base L2.CX0 (2 * n) fa fd fi.ps (spD c fi.ps.length Γ.call f)
theorem Gd.blk {X : Cx} {c : Cc} {Γ : Env} {tb : Tb} {n : Nat} (G : Gd X c Γ tb n) (s : Shared) (H : Hp) (scope : Scope) (cenv : PySem.Env) (fp : List Addr) : Gd (X.blk s H scope cenv fp) c Γ tb n :=
  ⟨G.K, G.nd, G.calm, G.room, G.fnm, G.cls, G.blt, G.glob, G.fns, G.lens, G.eqs, G.inss, G.mks⟩
section
variable {X : Cx} {c : Cc} {Γ : Env} {tb : Tb} {n : Nat}
theorem vis_ok {sc : Scope} {x : Str} (h : vis sc x = true) : Vis sc x := by
  unfold vis at h
  split at h
  · rename_i e; exact .inl e
  · rename_i e; exact .inr (.inl e)
  · rename_i e; exact .inr (.inr e)
  · cases h
theorem glb_ok {x : Str} (h : glb X.env.scope x = true) : Gl X x := by
  unfold glb at h
  split at h
  · rename_i e; exact e
  · cases h
theorem name_ok {i : Nat} {x : Str} {p : Pos} (h : okN X.N X.env.scope i x = true) : PE X (.Name x p) (tVar i) := by
  unfold okN at h
  simp only [Bool.and_eq_true, decide_eq_true_eq, Bool.not_eq_true'] at h
  exact pe_var h.1.1.1 (vis_ok h.1.1.2) h.1.2 h.2
theorem pt_of {e : E} {m : M D} (h : PE X e.py (tE c m)) (he : ∀ whole, isTrue e.py X.env whole = (do let v ← whole; standAt e.py.pos; holding [v] (truthy v))) : PT X e.py (tBo c (trM m)) := d_tval (pt_val h he)
theorem units_ok {k : Nat} (r : Room k X.A) : X.A.units + 65 < cLine := by have := r.un; omega
theorem As.lenOk : ∀ {as : As} {s s' : St} {sl : List Slot}, denAs Γ as s = some (sl, s') → sl.length = as.len
  | .nil, _, _, _, h => by rw [denAs] at h; cases ret_some.mp h; rfl
  | .val e as, s, s', sl, h => by
    rw [denAs] at h
    obtain ⟨_, _, _, h⟩ := bnd_some.mp h
    obtain ⟨_, _, h1, h⟩ := bnd_some.mp h
    cases ret_some.mp h
    rw [List.length_cons, As.lenOk h1]; rfl
  | .share i x p as, s, s', sl, h => by
    rw [denAs] at h
    obtain ⟨_, _, _, h⟩ := bnd_some.mp h
    obtain ⟨_, _, h1, h⟩ := bnd_some.mp h
    cases ret_some.mp h
    rw [List.length_cons, As.lenOk h1]; rfl
theorem As.noStar {pos : Pos} {env : PySem.Env} : ∀ as : As, (backTo pos (starEach as.py env)).any (·.1) = false
  | .nil => by rw [As.py]; rfl
  | .val e as => by rw [As.py]; exact noStar_cons (As.noStar as)
  | .share i x p as => by
    rw [As.py, star_name]
    have := As.noStar (pos := pos) (env := env) as
    simpa [backTo] using this
theorem Wk.nofold (e : Wk) (env : PySem.Env) (x : Value) : foldedSetIterable e.py env x = pure x := by
  cases e <;> first | (rw [Wk.py]; exact E.nofold _ _ _) | (rw [Wk.py]; rfl)
theorem enumD_get : ∀ (ds : List D) (n i : Nat) (d : D), (enumD n ds)[i]? = some d → ∃ x, ds[i]? = some x ∧ d = .tup [.int ((n + i : Nat) : Int), x]
  | [], n, i, d, h => by simp [enumD] at h
  | x :: ds, n, 0, d, h => by simp [enumD] at h; exact ⟨x, rfl, by rw [← h]; simp⟩
  | x :: ds, n, i + 1, d, h => by
    rw [enumD, List.getElem?_cons_succ] at h
    obtain ⟨y, e1, e2⟩ := enumD_get ds (n + 1) i d h
    exact ⟨y, by simpa using e1, by rw [e2, show n + 1 + i = n + (i + 1) by omega]⟩
theorem enumD_length : ∀ (ds : List D) (n : Nat), (enumD n ds).length = ds.length
  | [], n => rfl
  | x :: ds, n => by rw [enumD, List.length_cons, List.length_cons, enumD_length ds (n + 1)]
theorem walk_enum {w : Wm} {H : Hp} {a : Addr} {vs : List V} {ds : List D} (h : LsA w H a vs) (r : IsAll c w H vs ds) : WalkD c (Ite c.K a) (enumD 0 ds) w H := fun w1 H1 st => by
  have h1 := h.stepN st
  have r1 := r.stepN st
  refine ⟨⟨vs, h1.sq, by rw [enumD_length, r.length]; exact Nat.le_refl _⟩, fun i d e => ?_⟩
  obtain ⟨y, e1, rfl⟩ := enumD_get ds 0 i d e
  obtain ⟨v, e2, q⟩ := r1.get e1
  refine ⟨⟨vs, v, h1.sq, e2⟩, fun x H2 y => ?_⟩
  obtain ⟨T, x', rfl, hT, rfl, y2⟩ := y
  have e3 := y2 vs h1.sq
  rw [e2] at e3; cases e3
  refine ⟨wnew w1 T, Same2.new hT, ?_⟩
  rw [Nat.zero_add]
  exact Is.newT (.cons (.int _) (.cons q .nil)) hT
theorem walk_enumT {w : Wm} {H : Hp} {a : Addr} {vs : List V} {ds : List D} (h : TpA w H a vs) (r : IsAll c w H vs ds) : WalkD c (IteT c.K a) (enumD 0 ds) w H := fun w1 H1 st => by
  have h1 := h.stepN st
  have r1 := r.stepN st
  refine ⟨⟨vs, h1.sq, by rw [enumD_length, r.length]; exact Nat.le_refl _⟩, fun i d e => ?_⟩
  obtain ⟨y, e1, rfl⟩ := enumD_get ds 0 i d e
  obtain ⟨v, e2, q⟩ := r1.get e1
  refine ⟨⟨vs, v, h1.sq, e2⟩, fun x H2 y => ?_⟩
  obtain ⟨T, x', rfl, hT, rfl, y2⟩ := y
  have e3 := y2 vs h1.sq
  rw [e2] at e3; cases e3
  refine ⟨wnew w1 T, Same2.new hT, ?_⟩
  rw [Nat.zero_add]
  exact Is.newT (.cons (.int _) (.cons q .nil)) hT
theorem d_ienu {tg e : Expr} {m : M D} (hK : X.K = c.K) (h : PI X tg e (iEnumB X.K (tCons (tE c m) tNil))) : PI X tg e (tI c (bnd m fun x => match x with
    | .lst ds => ret (enumD 0 ds)
    | .tup ds => ret (enumD 0 ds)
    | _ => fail)) := PI_imp h fun σ H Rq ⟨w, rs, s, items, s', R, e, k⟩ => by
  obtain ⟨d1, s1, e1, e5⟩ := bnd_some.mp e
  split at e5
  · cases ret_some.mp e5
    refine ⟨w, rs, s, _, _, R, e1, fun v1 H1 w1 R1 q1 st1 => ?_⟩
    cases q1 with
    | lst h r =>
      rw [hK]
      exact ⟨_, _, rfl, .inl ⟨h.sq, k _ H1 w1 R1 (walk_enum h r) st1⟩⟩
  · cases ret_some.mp e5
    refine ⟨w, rs, s, _, _, R, e1, fun v1 H1 w1 R1 q1 st1 => ?_⟩
    cases q1 with
    | tup h r =>
      rw [hK]
      exact ⟨_, _, rfl, .inr ⟨h.sq, k _ H1 w1 R1 (walk_enumT h r) st1⟩⟩
  · simp [fail] at e5
def scOf (Γ : Env) : Cs → List SC
  | .nil => []
  | .cons t it ifs cs => ⟨t.py, it.py, ifs.py, ⟨t, denIt Γ it, denIfs Γ ifs, t.ids ++ cs.ids⟩⟩ :: scOf Γ cs
theorem sc_dc (Γ : Env) : ∀ cs : Cs, (scOf Γ cs).map (·.dc) = denCs Γ cs
  | .nil => by rw [scOf, denCs]; rfl
  | .cons t it ifs cs => by rw [scOf, denCs, List.map_cons, sc_dc Γ cs]
theorem sc_py (Γ : Env) (c : Cc) : ∀ cs : Cs, ((scOf Γ cs).map (SC.cl c)).map Cl.py = cs.py
  | .nil => by rw [scOf, Cs.py]; rfl
  | .cons t it ifs cs => by rw [scOf, Cs.py, List.map_cons, List.map_cons, sc_py Γ c cs]; rfl
theorem nest_of (Γ : Env) : ∀ cs : Cs, DNest (scOf Γ cs)
  | .nil => trivial
  | .cons t it ifs .nil => ⟨fun i hi => List.mem_append_left _ hi, trivial, trivial⟩
  | .cons t it ifs (.cons t' it' ifs' cs) => ⟨fun i hi => List.mem_append_left _ hi, fun i hi => List.mem_append_right _ hi, nest_of Γ (.cons t' it' ifs' cs)⟩
theorem cl_nest (c : Cc) : ∀ qs : List SC, DNest qs → Nest (qs.map (SC.cl c))
  | [], _ => trivial
  | [q], _ => ⟨(fun i hi => by cases hi), trivial⟩
  | q :: z :: r, h => ⟨h.2.1, cl_nest c (z :: r) h.2.2⟩
theorem Ks.lenOk {Γ : Env} : ∀ (ks : Ks) {s s' : St} {ds : List D}, denKs Γ ks s = some (ds, s') → ds.length = ks.nms.length
  | .nil, _, _, _, h => by rw [denKs] at h; cases ret_some.mp h; rfl
  | .cons x e p ks, s, s', ds, h => by
    rw [denKs] at h
    obtain ⟨_, _, _, h⟩ := bnd_some.mp h
    obtain ⟨_, _, h1, h⟩ := bnd_some.mp h
    cases ret_some.mp h
    rw [List.length_cons, Ks.lenOk ks h1]; rfl
theorem Ks.all (pos : Pos) (env : PySem.Env) : ∀ ks : Ks, (backToKw pos (keywordEach ks.py env)).all (·.1.isSome) = true
  | .nil => by rw [Ks.py]; rfl
  | .cons x e p ks => by
    rw [Ks.py]
    exact Ks.all pos env ks
theorem Ks.none (pos : Pos) (env : PySem.Env) : ∀ ks : Ks, (backToKw pos (keywordEach ks.py env)).any (·.1.isNone) = false
  | .nil => by rw [Ks.py]; rfl
  | .cons x e p ks => by
    rw [Ks.py]
    exact Ks.none pos env ks
theorem Ks.names (pos : Pos) (env : PySem.Env) : ∀ ks : Ks, (backToKw pos (keywordEach ks.py env)).filterMap (·.1) = ks.nms
  | .nil => by rw [Ks.py]; rfl
  | .cons x e p ks => by
    rw [Ks.py, Ks.nms, ← Ks.names pos env ks]; rfl
theorem d_knil : PK X [] (tL c (ret [])) := ⟨fun pos pins s σ H Q I h => pk_nil.run pos pins s σ H Q I (by
  obtain ⟨w, rs, s, d, s', R, e, k⟩ := h
  cases ret_some.mp e
  exact k [] H w R .nil (Step.refl _ _))⟩
theorem d_kcons {m : M D} {ms : M (List D)} {kws : List Keyword} (h : PK X kws (tCons (tE c m) (tL c ms))) : PK X kws (tL c (bnd m fun d => bnd ms fun ds => ret (d :: ds))) := ⟨fun pos pins s σ H Q I q => h.run pos pins s σ H Q I (by
  obtain ⟨w, rs, s, d, s', R, e, k⟩ := q
  obtain ⟨d1, s1, e1, e⟩ := bnd_some.mp e
  obtain ⟨d2, s2, e2, e⟩ := bnd_some.mp e
  cases ret_some.mp e
  refine ⟨w, rs, s, d1, s1, R, e1, fun v1 H1 w1 R1 q1 st1 => ?_⟩
  refine ⟨w1, rs, s1, d2, _, R1, e2, fun v2 H2 w2 R2 q2 st2 => ?_⟩
  exact k _ H2 w2 R2 (.cons (q1.step st2) q2) (st1.trans st2))⟩
theorem d_lrng {e : Expr} {m : M D} (h : PE X e (tLstRg (tRg1 (tE c m)))) : PE X e (tE c (bnd m fun x => ofO (lrngD x))) := pimp h fun σ H Q ⟨w, rs, s, d, s', R, e, k⟩ => by
  obtain ⟨d1, s1, e1, e5⟩ := bnd_some.mp e
  obtain ⟨z, ez, ez'⟩ := ofO_some.mp e5
  injection ez' with z1 z2; subst z1 z2
  refine ⟨w, rs, s, d1, _, R, e1, fun v1 H1 w1 R1 q1 st1 => ?_⟩
  unfold lrngD at ez
  split at ez
  · rename_i i
    split at ez
    · rename_i hi
      cases ez
      cases q1
      refine ⟨i, rfl, ⟨by decide, by decide, hi.1, hi.2.1, by rw [show i - 0 = i by omega]; exact hi.2.2⟩, fun p hp => ?_⟩
      have ia : ∀ l : List Nat, IsAll c w1 H1 (l.map fun i => V.int (0 + (i : Nat))) (l.map fun (k : Nat) => D.int (0 + k)) := fun l => by
        induction l with
        | nil => exact .nil
        | cons z l ih => exact .cons (.int _) ih
      exact k _ _ _ (R1.new hp) (Is.newL (ia _) hp) (st1.trans (Step.new hp))
    · cases ez
  · cases ez
def tTys (ns : List V) : TA := fun _ H Q => Q ns H
theorem pa_tys {X : Cx} (hb : ∀ x ∈ bltNames, X.mg x = none) : ∀ (ts : List (Ty × Pos)), (∀ t ∈ ts, glb X.env.scope t.1.nm = true) → PA X (ts.map fun t => .Name t.1.nm t.2) (tTys (Ty.names (ts.map (·.1))))
  | [], _ => ⟨fun pos pins s σ H Q I h => pa_nil.run pos pins s σ H Q I h⟩
  | t :: ts, h => by
    have ht : PE X (.Name t.1.nm t.2) (tC (.ty t.1.name)) := by
      refine pe_bltn (glb_ok (h t List.mem_cons_self)) (hb _ ?_) (u := .type t.1.name) ?_ rfl ?_ ?_
      all_goals cases t.1 <;> decide +kernel
    exact pimpA (pa_cons ht (pa_tys hb ts fun z hz => h z (List.mem_cons_of_mem _ hz)) rfl) fun σ H Q q => q
theorem d_isiC {e : Expr} {k : Nat} {m : M D} (h : PE X e (tCB (fun xs H Q => ∃ a dx fs, xs = [.ref a, .ref (c.cl k)] ∧ H a = some (.ins (c.cl k) dx fs) ∧ Q (.bl true) H) (tCons (tE c m) (tCons (tC (.ref (c.cl k))) tNil)))) : PE X e (tE c (bnd m fun x => ofO ((isiCD k x).map .bl))) := pimp h fun σ H Q ⟨w, rs, s, d, s', R, e, kq⟩ => by
  obtain ⟨d1, s1, e1, e5⟩ := bnd_some.mp e
  obtain ⟨z, ez, ez'⟩ := ofO_some.mp e5
  injection ez' with z1 z2; subst z1 z2
  refine ⟨w, rs, s, d1, _, R, e1, fun v1 H1 w1 R1 q1 st1 => ?_⟩
  obtain ⟨b, eb, rfl⟩ := Option.map_eq_some_iff.mp ez
  unfold isiCD at eb
  split at eb
  · split at eb
    · rename_i hq
      cases eb
      subst hq
      cases q1 with
      | obj h1 h2 h3 r => exact ⟨_, _, _, rfl, h2, kq _ H1 w1 R1 (.bl true) st1⟩
    · cases eb
  · cases eb
theorem i_idx {m1 m2 : M D} : ∀ σ H Q, tE c (bnd m1 fun x => bnd m2 fun y => ofO (idxD x y)) σ H Q → tBM c.K "list" (rIndexD c.K) (tE c m1) (tCons (tE c m2) tNil) σ H Q := fun σ H Q ⟨w, rs, s, d, s', R, e, k⟩ => by
  obtain ⟨d1, s1, e1, e⟩ := bnd_some.mp e
  obtain ⟨d2, s2, e2, e⟩ := bnd_some.mp e
  obtain ⟨d3, e3, e⟩ := ofO_some.mp e
  cases e
  refine ⟨w, rs, s, d1, s1, R, e1, fun v1 H1 w1 R1 q1 st1 => ⟨?_, ?_⟩⟩
  · cases q1 with
    | lst h r => exact .inl ⟨rfl, _, h.sq⟩
    | _ => simp [idxD] at e3
  · refine ⟨w1, rs, s1, d2, _, R1, e2, fun v2 H2 w2 R2 q2 st2 => ?_⟩
    refine (op2_idx w2 H2 v1 v2 d1 d2 _ Q (q1.step st2) q2 e3 fun v H' w' hx q => ?_).2
    have st3 : Step w2 H2 w' H' := fun a o e _ => hx a o e
    exact k v H' w' (R2.ext hx) q ((st1.trans st2).trans st3)
theorem okPs_ok {f l : Nat} (h : okPs tb f l = true) : ∃ fi, tb.funs[f]? = some fi ∧ fi.ps.length = l := by
  unfold okPs at h
  split at h
  · rename_i fi e; exact ⟨fi, e, by simpa using h⟩
  · cases h
/-- what holds of an expression -/
theorem IsOs.get {w : Wm} {H : Hp} : ∀ {k : List Nat → Ow} {n : Nat} {vs : List V} {os : List OD}, IsOs c w H k n vs os → ∀ {i : Nat} {o : OD}, os[i]? = some o → ∃ v, vs[i]? = some v ∧ IsO c w H (fun p => k ((n + i) :: p)) v o
  | _, _, _, _, .nil, _, _, e => by simp at e
  | _, n, _, _, .cons h r, 0, _, e => by simp at e; subst e; exact ⟨_, rfl, h⟩
  | k, n, _, _, .cons h r, i + 1, o, e => by
    obtain ⟨v, e1, q⟩ := IsOs.get r (i := i) (by simpa using e)
    have e2 : n + 1 + i = n + (i + 1) := by omega
    rw [e2] at q
    exact ⟨v, by simpa using e1, q⟩
theorem IsOs.length {w : Wm} {H : Hp} : ∀ {k : List Nat → Ow} {n : Nat} {vs : List V} {os : List OD}, IsOs c w H k n vs os → vs.length = os.length
  | _, _, _, _, .nil => rfl
  | _, _, _, _, .cons _ r => by rw [List.length_cons, List.length_cons, IsOs.length r]
theorem IsO.isNon {w : Wm} {H : Hp} {k : List Nat → Ow} {v : V} {o : OD} (h : IsO c w H k v o) : decide (v = .non) = o.isNon := by
  cases h with
  | leaf h => cases h <;> simp [OD.isNon]
  | _ => simp [OD.isNon]
theorem i_nna {j k : Nat} (neg : Bool) : ∀ σ H Q, tE c (nnaM j k neg) σ H Q → tOp (rCmp c.K (if neg then .IsNot else .Is)) (tOp (rIx c.K) (tVar j) (tC (.int k))) (tC .non) σ H Q := fun σ H Q ⟨w, rs, s, d, s', R, e, kq⟩ => by
  unfold nnaM at e
  split at e
  · rename_i os ep
    split at e
    · rename_i o eo
      cases e
      obtain ⟨v, kk, hv, q⟩ := R.peek ep
      cases q with
      | nl h1 h2 r =>
        rename_i a vs
        obtain ⟨u, e1, qu⟩ := r.get eo
        have hk : k < vs.length := (List.getElem?_eq_some_iff.mp e1).1
        have hat : atI vs (k : Int) = some u := by
          have : ixN vs.length (k : Int) = some k := by
            unfold ixN
            rw [if_pos (by omega), if_pos (by omega)]
            simp
          unfold atI
          rw [this]
          exact e1
        refine ⟨_, hv, .inl ⟨_, _, _, _, rfl, rfl, .of h2, hat, ?_⟩⟩
        have hn := qu.isNon
        cases neg with
        | true =>
          refine .inl ⟨rfl, ?_⟩
          rw [hn]
          exact kq _ H w R (.bl _) (Step.refl _ _)
        | false =>
          refine .inl ⟨rfl, ?_⟩
          rw [hn]
          exact kq _ H w R (.bl _) (Step.refl _ _)
    · cases e
  · cases e
def SE (X : Cx) (c : Cc) (Γ : Env) (e : E) : Prop := PE X e.py (tE c (den Γ e)) ∧ (e.noIfe = true → PT X e.py (tBo c (trM (den Γ e))))
theorem SE.of {e : E} (h : PE X e.py (tE c (den Γ e))) (he : ∀ whole, isTrue e.py X.env whole = (do let v ← whole; standAt e.py.pos; holding [v] (truthy v))) : SE X c Γ e := ⟨h, fun _ => pt_of h he⟩
def E.nb (e : E) : Prop := ∀ i x p, e ≠ .bv i x p
theorem E.bvOr (e : E) : (∃ i x p, e = .bv i x p) ∨ e.nb := by
  cases e <;> first | exact .inl ⟨_, _, _, rfl⟩ | exact .inr (fun _ _ _ h => nomatch h)
theorem opn_nb {m : M D} {e : E} (h : e.nb) : opn m e = m := by
  cases e <;> first | rfl | exact absurd rfl (h _ _ _)
theorem ok_nb {N : List Str} {sc : Scope} {e : E} (h : okE tb N sc e = true) : e.nb := fun i x p z => by subst z; rw [okE] at h; cases h
/-- an operand: looked at, or by value -/
theorem so_of {e : E} (h : okOp X.N X.env.scope (okE tb X.N X.env.scope e) e = true) (ih : okE tb X.N X.env.scope e = true → SE X c Γ e) : PE X e.py (tR c (opn (den Γ e) e)) := by
  rcases e.bvOr with ⟨i, x, p, rfl⟩ | nb
  · rw [E.py]
    exact d_bv (name_ok h)
  · rw [opn_nb nb]
    refine tE_r (ih ?_).1
    cases e <;> first | exact h | exact absurd rfl (nb _ _ _)
theorem cmpM_nb {op : CmpOp} {m m' : M D} {a : E} (nb : a.nb) : cmpM op m a m' = bnd m fun x => bnd m' fun y => ofO (cmpD op x y) := by
  cases a <;> first | rfl | exact absurd rfl (nb _ _ _)
theorem subM_nb {m m' : M D} {a : E} (nb : a.nb) : subM m a m' = bnd m fun x => bnd m' fun y => ofO (ixD x y) := by
  cases a <;> first | rfl | exact absurd rfl (nb _ _ _)
theorem attM_nb {fn : Nat → List Str} {m : M D} {a : E} {k : Nat} {f : Str} (nb : a.nb) : attM fn m a k f = bnd m fun x => ofO (attO fn k f (.leaf x)) := by
  cases a <;> first | rfl | exact absurd rfl (nb _ _ _)
theorem okOp_nb {N : List Str} {sc : Scope} {b : Bool} {a : E} (nb : a.nb) : okOp N sc b a = b := by
  cases a <;> first | rfl | exact absurd rfl (nb _ _ _)
theorem attBase {a : E} {f : Str} {env : PySem.Env} {whole : Sem Value} (h : a.base = true) : attributeBase a.py f env whole = whole := by
  cases a <;> try (rw [E.py]; rfl)
  · rename_i g x p as q
    cases as with
    | nil => simp [E.base] at h
    | val e as => rw [E.py, As.py]; rfl
    | share i y p as => rw [E.py, As.py]; rfl
  · rename_i k g x p as q
    cases as with
    | nil => simp [E.base] at h
    | val e as => rw [E.py, As.py]; rfl
    | share i y p as => rw [E.py, As.py]; rfl
  · simp [E.base] at h
theorem okFn_ok {f l : Nat} {x : Str} (h : okFn tb f x l = true) : ∃ fi, tb.funs[f]? = some fi ∧ fi.pl = true ∧ fi.x = x ∧ fi.ps.length = l := by
  unfold okFn at h
  split at h
  · rename_i fi e
    simp only [Bool.and_eq_true, decide_eq_true_eq] at h
    exact ⟨fi, e, h.1, h.2.1, h.2.2⟩
  · cases h
theorem okCl_ok {k f l : Nat} {x : Str} (h : okCl tb k x f l = true) : ∃ fi, tb.clss[k]? = some (x, f) ∧ tb.funs[f]? = some fi ∧ fi.ps.length = l + 1 := by
  unfold okCl at h
  split at h
  · rename_i y g fi e1 e2
    simp only [Bool.and_eq_true, decide_eq_true_eq] at h
    obtain ⟨⟨rfl, rfl⟩, h3⟩ := h
    exact ⟨fi, e1, e2, h3⟩
  · cases h
mutual
theorem sE : ∀ (e : E) {X : Cx}, Gd X c Γ tb n → okE tb X.N X.env.scope e = true → SE X c Γ e
  | .var i x p, X, G, ok => by
    rw [okE] at ok
    refine .of ?_ fun _ => by rw [E.py]; rfl
    rw [E.py, den]
    exact d_var (name_ok ok)
  | .bv i x p, X, G, ok => by rw [okE] at ok; cases ok
  | .con k j p, X, G, ok => by
    refine .of ?_ fun _ => by rw [E.py]; rfl
    rw [okE] at ok
    rw [E.py, den]
    cases k <;> first
      | exact d_con pe_non fun _ _ => .non
      | exact d_con pe_bl fun _ _ => .bl _
      | exact d_con pe_int fun _ _ => .int _
      | exact d_con pe_str fun _ _ => .str _
      | cases ok
  | .glo g x p, X, G, ok => by
    refine .of ?_ fun _ => by rw [E.py]; rfl
    rw [okE] at ok
    simp only [Bool.and_eq_true, decide_eq_true_eq, Bool.not_eq_true'] at ok
    rw [E.py, den]
    cases e : Γ.glob g with
    | none => exact ⟨fun pins s σ H Q I ⟨_, _, _, _, _, _, z, _⟩ => by simp [ofO, fail] at z⟩
    | some d =>
      obtain ⟨u, v, h1, h2, h3⟩ := G.glob g x d ok.1.1 e
      exact d_con (pe_glob (glb_ok ok.1.2) h1 h2 ok.2) h3
  | .tup es k p, X, G, ok => by
    refine .of ?_ fun _ => by rw [E.py]; rfl
    rw [okE] at ok
    rw [E.py, den]
    exact d_tup (pe_tup (sEs es G ok))
  | .lst es p, X, G, ok => by
    refine .of ?_ fun _ => by rw [E.py]; rfl
    rw [okE] at ok
    rw [E.py, den]
    exact d_lst (pe_lst (sEs es G ok))
  | .bin a op b p, X, G, ok => by
    refine .of ?_ fun _ => by rw [E.py]; rfl
    rw [okE, Bool.and_eq_true] at ok
    rw [E.py, den]
    exact d_two (pe_op (opr_bin op) (sE a G ok.1).1 (sE b G ok.2).1) (op2_bin op)
  | .una op a p, X, G, ok => by
    rw [okE, Bool.and_eq_true] at ok
    have ha := sE a G ok.1
    by_cases ho : op = .Not
    · subst ho
      refine ⟨?_, fun _ => ?_⟩
      · rw [E.py, den]
        exact d_not (pe_not ha.1)
      · rw [E.py, den]
        exact d_tnot (pt_not (ha.2 ok.2))
    · have hd : unaM op (den Γ a) = bnd (den Γ a) fun x => ofO (unD op x) := by
        cases op <;> first | rfl | exact absurd rfl ho
      refine .of ?_ fun _ => by rw [E.py]; cases op <;> first | rfl | exact absurd rfl ho
      rw [E.py, den, hd]
      exact d_one (pe_un (opr_un op) ha.1) (op1_un op)
  | .bop op e es p, X, G, ok => by
    rw [okE, Bool.and_eq_true, Bool.and_eq_true] at ok
    have he := sE e G ok.1.1
    have := sB es G ok.2 op p (den Γ e) e.py he.1 (he.2 ok.1.2)
    refine ⟨?_, fun _ => ?_⟩
    · rw [E.py, den]; exact this.1
    · rw [E.py, den]; exact this.2.pt
  | .cmp a op b p, X, G, ok => by
    rw [okE, Bool.and_eq_true] at ok
    have hb := so_of ok.2 (sE b G)
    have hu := units_ok G.room
    have ho := opr_cmp hu op
    rw [G.K] at ho
    rcases a.bvOr with ⟨i, x, q, rfl⟩ | nb
    · have ha : PE X (E.bv i x q).py (tVar i) := by rw [E.py]; exact name_ok ok.1
      have hr : Op2 c (Rd0 c) (Rd0 c) (cmpD op) (rCmp c.K op) := op2_cmp (fun h => h) (fun h => h) op
      refine ⟨?_, fun _ => ?_⟩
      · rw [E.py, den]
        exact pimp (pe_cmpR ho ha hb (b.nomark op)) (i_bvtwo hr)
      · rw [E.py, den]
        exact pimpT (pt_cmpR ho ha hb (b.nomark op)) fun σ H Q q => i_bvtwo hr σ H _ (i_tr σ H Q q)
    · rw [okOp_nb nb] at ok
      have ha := (sE a G ok.1).1
      have hr : Op2 c (Is c) (Rd0 c) (cmpD op) (rCmp c.K op) := op2_cmp (fun h => h.weak) (fun h => h) op
      refine ⟨?_, fun _ => ?_⟩
      · rw [E.py, den, cmpM_nb nb]
        exact pimp (pe_cmpR ho ha hb (b.nomark op)) (i_two hr)
      · rw [E.py, den, cmpM_nb nb]
        exact pimpT (pt_cmpR ho ha hb (b.nomark op)) fun σ H Q q => i_two hr σ H _ (i_tr σ H Q q)
  | .cmp2 a op b op' d p, X, G, ok => by
    rw [okE, Bool.and_eq_true, Bool.and_eq_true] at ok
    have hu := units_ok G.room
    have ho := opr_cmp hu op
    have ho' := opr_cmp hu op'
    rw [G.K] at ho ho'
    have hr : ∀ op, Op2 c (Is c) (Is c) (cmpD op) (rCmp c.K op) := op2_cmp (fun h => h.weak) (fun h => h.weak)
    have hm : lastMarks [op, op'] [b.py, d.py] = false := d.nomark op'
    refine ⟨?_, fun _ => ?_⟩
    · rw [E.py, den]
      exact pimp (pe_chain ho ho' (sE a G ok.1.1).1 (sE b G ok.1.2).1 (sE d G ok.2).1 hm) (i_chain (hr op) (hr op'))
    · rw [E.py, den]
      exact pimpT (pt_chain ho ho' (sE a G ok.1.1).1 (sE b G ok.1.2).1 (sE d G ok.2).1 hm) fun σ H Q q => i_chain (hr op) (hr op') σ H _ (i_tr σ H Q q)
  | .ife t a b p, X, G, ok => by
    rw [okE, Bool.and_eq_true, Bool.and_eq_true, Bool.and_eq_true] at ok
    refine ⟨?_, fun z => by simp [E.noIfe] at z⟩
    rw [E.py, den]
    exact d_ife (pe_ifExp ((sE t G ok.1.1.1).2 ok.1.1.2) (sE a G ok.1.2).1 (sE b G ok.2).1)
  | .sub a i p, X, G, ok => by
    rw [okE, Bool.and_eq_true] at ok
    refine .of ?_ fun _ => by rw [E.py]; rfl
    have hi := (sE i G ok.2).1
    have hx : IxR X (rIx c.K) := by rw [← G.K]; exact ix_seq
    rcases a.bvOr with ⟨j, x, q, rfl⟩ | nb
    · have ha : PE X (E.bv j x q).py (tVar j) := by rw [E.py]; exact name_ok ok.1
      rw [E.py, den]
      exact d_subB (pe_ix hx ha hi i.plainIx)
    · rw [okOp_nb nb] at ok
      rw [E.py, den, subM_nb nb]
      exact d_two (pe_ix hx (sE a G ok.1).1 hi i.plainIx) op2_ix
  | .att a k f p, X, G, ok => by
    rw [okE] at ok
    refine .of ?_ fun _ => by rw [E.py]; rfl
    rcases a.bvOr with ⟨j, x, q, rfl⟩ | nb
    · have ha : PE X (E.bv j x q).py (tVar j) := by rw [E.py]; exact name_ok ok
      rw [E.py, den]
      refine d_attB G.fnm G.cls (k := k) ?_
      rw [← G.K]
      exact pe_fld ha (attBase rfl)
    · rw [okOp_nb nb, Bool.and_eq_true] at ok
      rw [E.py, den, attM_nb nb]
      refine d_att G.fnm G.cls (k := k) ?_
      rw [← G.K]
      exact pe_fld (sE a G ok.1).1 (attBase ok.2)
  | .bi1 b p e q, X, G, ok => by
    rw [okE] at ok
    simp only [Bool.and_eq_true, decide_eq_true_eq] at ok
    refine .of ?_ fun _ => by rw [E.py]; rfl
    rw [E.py, den]
    exact d_cb1 (pe_b1 G.calm G.K ⟨ok.1.1.1.1, ok.1.1.1.2, ok.1.1.2⟩ (glb_ok ok.1.2) (G.blt _ (by cases b <;> decide +kernel)) (so_of ok.2 (sE e G))) (op1_b1 b)
  | .bi2 b p e e' q, X, G, ok => by
    rw [okE] at ok
    simp only [Bool.and_eq_true, Bool.or_eq_true, decide_eq_true_eq] at ok
    refine .of ?_ fun _ => by rw [E.py]; rfl
    rw [E.py, den]
    exact d_cb2 (pe_b2 G.calm ok.1.1.1 (glb_ok ok.1.1.2) (G.blt _ (by cases b <;> decide +kernel)) (sE e G ok.1.2).1 (sE e' G ok.2).1) (op2_b2 b)
  | .conv b p e q, X, G, ok => by
    rw [okE] at ok
    simp only [Bool.and_eq_true, Bool.or_eq_true, decide_eq_true_eq] at ok
    refine .of ?_ fun _ => by rw [E.py]; rfl
    rw [E.py, den]
    refine d_cb1 (pe_b1 G.calm G.K ?_ (glb_ok ok.1.2) (G.blt _ (by cases b <;> decide +kernel)) (sE e G ok.2).1) (op1_conv b)
    rcases ok.1.1 with z | z <;> subst z <;> exact ⟨by decide, by decide, by decide⟩
  | .mth0 m j x p1 p2 p3, X, G, ok => by
    rw [okE] at ok
    simp only [Bool.and_eq_true, Bool.or_eq_true, decide_eq_true_eq] at ok
    refine .of ?_ fun _ => by rw [E.py]; rfl
    rw [E.py, den]
    exact d_mth0 G.K ok.2 (name_ok ok.1.1) ok.1.2
  | .mth1 m j x p1 p2 e p3, X, G, ok => by
    rw [okE] at ok
    simp only [Bool.and_eq_true, Bool.or_eq_true, decide_eq_true_eq] at ok
    refine .of ?_ fun _ => by rw [E.py]; rfl
    rw [E.py, den]
    exact d_mth1 G.K ok.1.2 (name_ok ok.1.1.1) ok.1.1.2 (sE e G ok.2).1
  | .isi a t p1 p2 p3, X, G, ok => by
    rw [okE] at ok
    simp only [Bool.and_eq_true] at ok
    refine .of ?_ fun _ => by rw [E.py]; rfl
    rw [E.py, den]
    exact d_isi (pe_isi G.K (glb_ok ok.1.1) (G.blt _ (by decide +kernel)) (glb_ok ok.1.2) (G.blt _ (by cases t <;> decide +kernel)) (so_of ok.2 (sE a G)))
  | .call f x p as q, X, G, ok => by
    rw [okE] at ok
    simp only [Bool.and_eq_true, Bool.not_eq_true'] at ok
    obtain ⟨⟨⟨h1, h2⟩, h3⟩, h4⟩ := ok
    refine .of ?_ fun _ => by rw [E.py]; rfl
    cases ef : tb.funs[f]? with
    | none => rw [ef] at h1; cases h1
    | some fi =>
      rw [ef] at h1
      simp only [Bool.and_eq_true, decide_eq_true_eq] at h1
      obtain ⟨hpl, h1⟩ := h1
      obtain ⟨fa, fd, g1, g2, g3, g4, _⟩ := G.fns f fi ef hpl
      rw [h1.1] at g1
      have hroom : Room (2 * n) X.A := G.room.mono (by omega)
      have hl : ∀ s sl s', denAs Γ as s = some (sl, s') → sl.length = fi.ps.length := fun s sl s' e => by rw [As.lenOk e, h1.2]
      have hA := sAs as G h4
      rw [E.py, den]
      cases as with
      | nil =>
        rw [As.py] at hA ⊢
        refine pimp (pe_call0 (E := fun _ _ _ => False) g4 hroom (glb_ok h2) g1 g2 g3 .nil (fun _ _ _ _ _ _ _ z => z.elim) h3) fun σ H Q q => ?_
        have := i_call (E := fun _ _ _ => False) rfl hl σ H Q q
        obtain ⟨w, rs, s, sl, s', R, e, k⟩ := this
        rw [denAs] at e
        cases ret_some.mp e
        exact k [] H w R .nil (Step.refl _ _)
      | val e as =>
        rw [As.py] at hA ⊢
        exact pimp (pe_call (E := fun _ _ _ => False) g4 hroom (glb_ok h2) g1 g2 g3 .nil (fun _ _ _ _ _ _ _ z => z.elim) hA h3 (e.star _ _) (As.noStar as)) (i_call rfl hl)
      | share i y r as =>
        rw [As.py] at hA ⊢
        exact pimp (pe_call (E := fun _ _ _ => False) g4 hroom (glb_ok h2) g1 g2 g3 .nil (fun _ _ _ _ _ _ _ z => z.elim) hA h3 rfl (As.noStar as)) (i_call rfl hl)
  | .callT f x p g y p' as q' q, X, G, ok => by
    rw [okE] at ok
    simp only [Bool.and_eq_true, Bool.not_eq_true', decide_eq_true_eq] at ok
    obtain ⟨⟨⟨⟨⟨⟨⟨h1, h2⟩, h3⟩, h4⟩, h5⟩, h6⟩, h7⟩, h8⟩ := ok
    refine .of ?_ fun _ => by rw [E.py]; rfl
    obtain ⟨fi, f1, f2, f3, f4⟩ := okFn_ok h1
    obtain ⟨gi, g1, g2, g3, g4⟩ := okFn_ok h2
    obtain ⟨fa, fd, a1, a2, a3, a4, _⟩ := G.fns f fi f1 f2
    obtain ⟨ga, gd, b1, b2, b3, b4, _⟩ := G.fns g gi g1 g2
    rw [f3] at a1
    rw [g3] at b1
    have hroom : Room (2 * n) X.A := G.room.mono (by omega)
    have hl : ∀ s sl s', denAs Γ as s = some (sl, s') → sl.length = gi.ps.length := fun s sl s' e => by rw [As.lenOk e, g4]
    have hA := sAs as G h8
    rw [E.py, den]
    rw [f4] at a4
    have inner : PE X (.Call (.Name y p') as.py [] q') (tCall (spD c gi.ps.length Γ.call g) [] (fun _ _ _ => False) (tAs c (denAs Γ as))) := by
      cases as with
      | nil => exact absurd rfl h7
      | val e as =>
        rw [As.py] at hA ⊢
        exact pe_call b4 hroom (glb_ok h4) b1 b2 b3 .nil (fun _ _ _ _ _ _ _ z => z.elim) hA h6 (e.star _ _) (As.noStar as)
      | share i z r as =>
        rw [As.py] at hA ⊢
        exact pe_call b4 hroom (glb_ok h4) b1 b2 b3 .nil (fun _ _ _ _ _ _ _ z => z.elim) hA h6 rfl (As.noStar as)
    exact pimp (pe_call (E := fun _ _ _ => False) a4 hroom (glb_ok h3) a1 a2 a3 .nil (fun _ _ _ _ _ _ _ z => z.elim) (pa_cons inner pa_nil rfl) h5 rfl rfl) (i_callT hl)
  | .new k f x p as q, X, G, ok => by
    rw [okE] at ok
    simp only [Bool.and_eq_true, Bool.not_eq_true'] at ok
    obtain ⟨⟨⟨h1, h2⟩, h3⟩, h4⟩ := ok
    refine .of ?_ fun _ => by rw [E.py]; rfl
    obtain ⟨fi, f1, f2, f3⟩ := okCl_ok h1
    obtain ⟨fa, fd, a1, a2, a3, a4⟩ := G.mks k x f fi f1 f2
    have hl : ∀ s sl s', denAs Γ as s = some (sl, s') → sl.length + 1 = fi.ps.length := fun s sl s' e => by rw [As.lenOk e, f3]
    have hA := sAs as G h4
    rw [E.py, den]
    cases as with
    | nil =>
      rw [As.py] at hA ⊢
      refine pimp (pe_make0 (E := fun _ _ _ => False) a2 a4 G.room (glb_ok h2) a1 a3 .nil (fun _ _ _ _ _ _ _ z => z.elim) h3) fun σ H Q q => ?_
      have := i_new (E := fun _ _ _ => False) hl σ H Q q
      obtain ⟨w, rs, s, sl, s', R, e, kk⟩ := this
      rw [denAs] at e
      cases ret_some.mp e
      exact kk [] H w R .nil (Step.refl _ _)
    | val e as =>
      rw [As.py] at hA ⊢
      exact pimp (pe_make (E := fun _ _ _ => False) a2 a4 G.room (glb_ok h2) a1 a3 .nil (fun _ _ _ _ _ _ _ z => z.elim) hA h3 (e.star _ _) (As.noStar as)) (i_new hl)
    | share i y r as =>
      rw [As.py] at hA ⊢
      exact pimp (pe_make (E := fun _ _ _ => False) a2 a4 G.room (glb_ok h2) a1 a3 .nil (fun _ _ _ _ _ _ _ z => z.elim) hA h3 rfl (As.noStar as)) (i_new hl)
  | .comp elt t it ifs scope own p, X, G, ok => by
    rw [okE] at ok
    simp only [Bool.and_eq_true] at ok
    obtain ⟨⟨⟨⟨⟨h1, h2⟩, h3⟩, h4⟩, h5⟩, h6⟩ := ok
    refine .of ?_ fun _ => by rw [E.py]; rfl
    rw [E.py, den]
    refine d_comp (fun i hi => ?_) (pe_lc G.calm G.nd (sWk it G t h4) (blkOk_by h1) (fun s H C cl fp => ?_) (fun s H C cl fp => ?_) (fun s H C cl fp => ?_) (it.nofold _))
    · have := List.all_eq_true.mp h2 i hi
      simpa using this
    · exact sT (X := X.blk s H scope (compEnvC scope cl C X.env) fp) G.nd G.calm t h3
    · exact sIfs ifs (G.blk s H scope _ fp) h5
    · exact (sE elt (G.blk s H scope _ fp) h6).1
  | .compN elt .nil scope own p, X, G, ok => by rw [okE] at ok; cases ok
  | .compN elt (.cons t it ifs cs) scope own p, X, G, ok => by
    rw [okE] at ok
    simp only [Bool.and_eq_true] at ok
    obtain ⟨⟨⟨⟨⟨⟨h1, h2⟩, h3⟩, h4⟩, h5⟩, h6⟩, h7⟩ := ok
    have hid : ∀ i ∈ t.ids ++ cs.ids, i ∈ own.map (·.2) := fun i hi => by simpa using List.all_eq_true.mp h2 i hi
    refine .of ?_ fun _ => by rw [E.py]; rfl
    rw [E.py, Cs.py, den, denCs, compM]
    have hn : DNest ((⟨t.py, it.py, ifs.py, ⟨t, denIt Γ it, denIfs Γ ifs, own.map fun z : Str × Nat => z.2⟩⟩ : SC) :: scOf Γ cs) := by
      refine ⟨fun i hi => hid i (List.mem_append_left _ hi), ?_, nest_of Γ cs⟩
      cases cs with
      | nil => trivial
      | cons t' it' ifs' cs' => exact fun i hi => hid i (List.mem_append_right _ hi)
    have key := i_compN (c := c) (me := den Γ elt) hn
    have e1 := sc_dc Γ cs
    have e2 := sc_py Γ c cs
    rw [e1] at key
    refine pimp ?_ key
    rw [← e2]
    refine pe_lcN (own := own) (cs := (scOf Γ cs).map (SC.cl c)) (q := SC.cl c ⟨t.py, it.py, ifs.py, ⟨t, denIt Γ it, denIfs Γ ifs, own.map fun z : Str × Nat => z.2⟩⟩) G.calm G.nd (sWk it G t h4) (blkOk_by h1) rfl (it.nofold _) (cl_nest c _ hn) (fun s H C cl fp => ⟨?_, ?_, ?_⟩) fun s H C cl fp => ?_
    · exact sT (X := X.blk s H scope (compEnvC scope cl C X.env) fp) G.nd G.calm t h3
    · exact sIfs ifs (G.blk s H scope _ fp) h5
    · exact sCs cs (G.blk s H scope _ fp) h6
    · exact (sE elt (G.blk s H scope _ fp) h7).1
  | .ss p1 p2 e q2 q1, X, G, ok => by
    rw [okE] at ok
    simp only [Bool.and_eq_true] at ok
    refine .of ?_ fun _ => by rw [E.py]; rfl
    rw [E.py, den]
    have inner : PE X (.Call (.Name "set" p2) [e.py] [] q2) (tCB (rMkSet X.K X.w) (tCons (tE c (den Γ e)) tNil)) := pe_callTy (cr_setL G.calm) (glb_ok ok.1.2) (G.blt _ (by decide +kernel)) (by decide +kernel) (pa_cons (sE e G ok.2).1 pa_nil (e.star _ _)) (he := e.star _ _)
    rw [G.K] at inner
    refine d_one (r := fun x H Q => rMkSet c.K X.w [x] H fun y H2 => rSortedSet X.w [y] H2 Q) (pimp (pe_callB (cr_sortedSet G.calm) (glb_ok ok.1.1) (G.blt _ (by decide +kernel)) (by decide +kernel) (pa_cons inner pa_nil rfl) (he := rfl)) fun _ _ _ q => q) op1_ss
  | .sne p1 a q1 p2 b q2 q, X, G, ok => by
    rw [okE] at ok
    simp only [Bool.and_eq_true] at ok
    have hu := units_ok G.room
    have inner : ∀ (p q : Pos) (e : E), PE X e.py (tE c (den Γ e)) → PE X (.Call (.Name "set" p) [e.py] [] q) (tCB (rMkSet X.K X.w) (tCons (tE c (den Γ e)) tNil)) := fun p q e h => pe_callTy (cr_setL G.calm) (glb_ok ok.1.1) (G.blt _ (by decide +kernel)) (by decide +kernel) (pa_cons h pa_nil (e.star _ _)) (he := e.star _ _)
    rw [G.K] at inner
    refine ⟨?_, fun _ => ?_⟩
    · rw [E.py, den]
      exact pimp (pe_cmpR (op_sne hu) (inner p1 q1 a (sE a G ok.1.2).1) (inner p2 q2 b (sE b G ok.2).1) rfl) i_sne
    · rw [E.py, den]
      exact pimpT (pt_cmpR (op_sne hu) (inner p1 q1 a (sE a G ok.1.2).1) (inner p2 q2 b (sE b G ok.2).1) rfl) fun σ H Q q => i_sne σ H _ (i_tr σ H Q q)
  | .idx a p e q, X, G, ok => by
    rw [okE] at ok
    simp only [Bool.and_eq_true] at ok
    refine .of ?_ fun _ => by rw [E.py]; rfl
    rw [E.py, den]
    have hu := units_ok G.room
    have key := pe_bm (r := rIndexD X.K) (apos := p) (cpos := q) PySem.F.plainAttrs_list PySem.F.slot_list_index PySem.F.type_list_index (mt_indexD hu) (sE a G ok.1.1.1).1 (pa_cons (sE e G ok.2).1 pa_nil (e.star _ _)) (attBase ok.1.1.2) (by rw [e.star]; rfl) ok.1.2 (e.star _ _) rfl
    rw [G.K] at key
    exact pimp key i_idx
  | .sl a lo hi p q, X, G, ok => by
    rw [okE] at ok
    simp only [Bool.and_eq_true] at ok
    refine .of ?_ fun _ => by rw [E.py]; rfl
    rw [E.py, den]
    have hs : SlR X (rSlB c.K) := by rw [← G.K]; exact SlR.or sl_list sl_tupA
    exact d_slice (pe_slice hs (sE a G ok.1.1).1 (sEO lo G ok.1.2) (sEO hi G ok.2))
  | .lrng p1 p2 e q2 q1, X, G, ok => by
    rw [okE] at ok
    simp only [Bool.and_eq_true] at ok
    refine .of ?_ fun _ => by rw [E.py]; rfl
    rw [E.py, den]
    exact d_lrng (pe_listRg G.calm (glb_ok ok.1.1) (G.blt _ (by decide +kernel)) (prg_1 (glb_ok ok.1.2) (G.blt _ (by decide +kernel)) (sE e G ok.2).1 (e.star _ _)) rfl)
  | .isiT a ts k p1 p2 p3, X, G, ok => by
    rw [okE] at ok
    simp only [Bool.and_eq_true, decide_eq_true_eq] at ok
    refine .of ?_ fun _ => by rw [E.py]; rfl
    rw [E.py, den]
    have hts : ∀ t ∈ ts, glb X.env.scope t.1.nm = true := fun t ht => List.all_eq_true.mp ok.1.1.1.2 t ht
    have ci : CallR X (.builtin "isinstance") (rIsiT c.K) := by rw [← G.K]; exact call_isiT
    refine d_one (P1 := Is c) (m1 := den Γ a) (f := fun d => (isiTD d (ts.map (·.1))).map .bl) (r := fun x H Q => (Ty.names (ts.map fun z : Ty × Pos => z.1)).length ≤ sizeLine ∧ ∀ p, H p = none → rIsiT c.K [x, .ref p] (upd H p (.tup (Ty.names (ts.map fun z : Ty × Pos => z.1)))) Q) (pimp (pe_callB ci (glb_ok ok.1.1.1.1) (G.blt _ (by decide +kernel)) (by decide +kernel) (pa_cons (sE a G ok.1.1.2).1 (pa_cons (pe_tup (pa_tys G.blt ts hts)) pa_nil rfl) (a.star _ _)) (he := a.star _ _)) fun _ _ _ q => q) (op1_isiT _ ?_ ?_)
    · intro z; exact ok.1.2 (List.map_eq_nil_iff.mp z)
    · unfold Ty.names; rw [List.length_map, List.length_map]; have : sizeLine = 16777216 := by rw [sizeLine_eq]
      omega
  | .isiC a k x p1 p2 p3, X, G, ok => by
    rw [okE] at ok
    simp only [Bool.and_eq_true, decide_eq_true_eq, Bool.not_eq_true'] at ok
    obtain ⟨⟨⟨⟨o1, o2⟩, o3⟩, o4⟩, o5⟩ := ok
    refine .of ?_ fun _ => by rw [E.py]; rfl
    rw [E.py, den]
    obtain ⟨g1, g2⟩ := G.inss k x o4
    exact d_isiC (pe_callB (C8.call_isC g2) (glb_ok o1) (G.blt _ (by decide +kernel)) (by decide +kernel) (pa_cons (sE a G o5).1 (pa_cons (pe_glob (v := .ref (c.cl k)) (glb_ok o2) g1 rfl o3) pa_nil rfl) (a.star _ _)) (he := a.star _ _))
  | .callK f x p ks m π q, X, G, ok => by
    rw [okE] at ok
    simp only [Bool.and_eq_true, decide_eq_true_eq, Bool.not_eq_true'] at ok
    obtain ⟨⟨⟨⟨o1, o2⟩, o3⟩, o4⟩, o5⟩ := ok
    refine .of ?_ fun _ => by rw [E.py]; rfl
    rw [E.py, den]
    obtain ⟨fi, f1, f2, f3, f4⟩ := okFn_ok o1
    obtain ⟨fa, fd, a1, a2, a3, a4, a5⟩ := G.fns f fi f1 f2
    rw [f3] at a1
    have hroom : Room (2 * n) X.A := G.room.mono (by omega)
    have key := pe_callK0 (p := p) (pos := q) a4 hroom (glb_ok o2) a1 a2 (a5 _ _ o4) (sKs ks G o5) (ks.all _ _) (ks.names _ _) o3 (ks.none _ _)
    rw [f4] at key
    exact pimp key (i_callK fun s ds s' e => ks.lenOk e)
  | .lenO k f p e q, X, G, ok => by
    rw [okE] at ok
    simp only [Bool.and_eq_true, decide_eq_true_eq] at ok
    obtain ⟨⟨⟨o1, o2⟩, o3⟩, o4⟩ := ok
    refine .of ?_ fun _ => by rw [E.py]; rfl
    rw [E.py, den]
    obtain ⟨fi, f1, f2⟩ := okPs_ok o3
    obtain ⟨fa, fd, a1, a2, a3, a4⟩ := G.lens k f fi o2 f1
    rw [f2] at a4
    exact pimp (pe_callB (call_lenO a4 G.room a1 a2 a3) (glb_ok o1) (G.blt _ (by decide +kernel)) (by decide +kernel) (pa_cons (sE e G o4).1 pa_nil (e.star _ _)) (he := e.star _ _)) i_lenO
  | .srt p e q, X, G, ok => by
    rw [okE] at ok
    simp only [Bool.and_eq_true] at ok
    refine .of ?_ fun _ => by rw [E.py]; rfl
    rw [E.py, den]
    have cr : CallR X (.builtin "sorted") (rSortedI c.K) := by rw [← G.K]; exact cr_sortedI
    exact d_one (r := fun x H Q => rSortedI c.K [x] H Q) (pimp (pe_callB cr (glb_ok ok.1) (G.blt _ (by decide +kernel)) (by decide +kernel) (pa_cons (sE e G ok.2).1 pa_nil (e.star _ _)) (he := e.star _ _)) fun _ _ _ q => q) op1_srt
  | .nna j x p1 k kk pk p2 neg kn pn p3, X, G, ok => by
    rw [okE] at ok
    have hu := units_ok G.room
    have hx : IxR X (rIx c.K) := by rw [← G.K]; exact ix_seq
    have ha : PE X (.Subscript (.Name x p1) (.Constant (.int k) kk pk) p2) (tOp (rIx c.K) (tVar j) (tC (.int k))) := pe_ix hx (name_ok ok) pe_int (by have z := (E.con (.int k) kk pk).plainIx; rw [E.py] at z; exact z)
    cases neg with
    | true =>
      have ho := opr_cmp hu .IsNot
      rw [G.K] at ho
      refine ⟨?_, fun _ => ?_⟩
      · rw [E.py, den]
        exact pimp (pe_cmpR ho ha pe_non rfl) (i_nna true)
      · rw [E.py, den]
        exact pimpT (pt_cmpR ho ha pe_non rfl) fun σ H Q q => i_nna true σ H _ (i_tr σ H Q q)
    | false =>
      have ho := opr_cmp hu .Is
      rw [G.K] at ho
      refine ⟨?_, fun _ => ?_⟩
      · rw [E.py, den]
        exact pimp (pe_cmpR ho ha pe_non rfl) (i_nna false)
      · rw [E.py, den]
        exact pimpT (pt_cmpR ho ha pe_non rfl) fun σ H Q q => i_nna false σ H _ (i_tr σ H Q q)
  | .rev a k p1 p2 p3 q, X, G, ok => by
    rw [okE] at ok
    refine .of ?_ fun _ => by rw [E.py]; rfl
    rw [E.py, den]
    have key := pe_revL (k := k) (p1 := p1) (p2 := p2) (p3 := p3) (pos := q) (sE a G ok).1
    rw [G.K] at key
    exact d_rev key
  | .eqO k f a b p, X, G, ok => by
    rw [okE] at ok
    simp only [Bool.and_eq_true, decide_eq_true_eq] at ok
    obtain ⟨⟨⟨o2, o3⟩, o4⟩, o5⟩ := ok
    obtain ⟨fi, f1, f2⟩ := okPs_ok o3
    obtain ⟨fa, fd, a1, a2, a3, a4⟩ := G.eqs k f fi o2 f1
    rw [f2] at a4
    have hroom : Room (2 * n) X.A := G.room.mono (by omega)
    refine ⟨?_, fun _ => ?_⟩
    · rw [E.py, den]
      exact pimp (pe_cmpR (op_eqO a4 hroom a1 a2 a3) (sE a G o4).1 (sE b G o5).1 (b.nomark _)) i_eqO
    · rw [E.py, den]
      exact pimpT (pt_cmpR (op_eqO a4 hroom a1 a2 a3) (sE a G o4).1 (sE b G o5).1 (b.nomark _)) fun σ H Q q => i_eqO σ H _ (i_tr σ H Q q)
theorem sEO : ∀ (e : EO) {X : Cx}, Gd X c Γ tb n → okEO tb X.N X.env.scope e = true → PO X e.py (tOI c (denEO Γ e))
  | .no, X, G, ok => by rw [EO.py, denEO]; exact d_pno
  | .yes e, X, G, ok => by
    rw [okEO] at ok
    rw [EO.py, denEO]; exact d_pyes (sE e G ok).1
theorem sKs : ∀ (ks : Ks) {X : Cx}, Gd X c Γ tb n → okKs tb X.N X.env.scope ks = true → PK X ks.py (tL c (denKs Γ ks))
  | .nil, X, G, ok => by rw [Ks.py, denKs]; exact d_knil
  | .cons x e p ks, X, G, ok => by
    rw [okKs, Bool.and_eq_true] at ok
    rw [Ks.py, denKs]; exact d_kcons (pk_cons (sE e G ok.1).1 (sKs ks G ok.2))
theorem sCs : ∀ (cs : Cs) {X : Cx}, Gd X c Γ tb n → okCs tb X.N X.env.scope X.fn cs = true → ∀ z ∈ (scOf Γ cs).map (SC.cl c), ClOk X z
  | .nil, X, G, ok, z, hz => by rw [scOf] at hz; cases hz
  | .cons t it ifs cs, X, G, ok, z, hz => by
    rw [okCs] at ok
    simp only [Bool.and_eq_true] at ok
    rw [scOf, List.map_cons] at hz
    rcases List.mem_cons.mp hz with e | hz
    · subst e
      exact ⟨sWk it G t ok.1.1.2, sT G.nd G.calm t ok.1.1.1, sIfs ifs G ok.1.2, fun _ _ => it.nofold _ _⟩
    · exact sCs cs G ok.2 z hz
theorem sEs : ∀ (es : Es) {X : Cx}, Gd X c Γ tb n → okEs tb X.N X.env.scope es = true → PA X es.py (tL c (dens Γ es))
  | .nil, X, G, ok => by rw [Es.py, dens]; exact d_nil
  | .cons e es, X, G, ok => by
    rw [okEs, Bool.and_eq_true] at ok
    rw [Es.py, dens]
    exact d_cons (pa_cons (sE e G ok.1).1 (sEs es G ok.2) (e.star _ _))
theorem sB : ∀ (es : Es) {X : Cx}, Gd X c Γ tb n → okB tb X.N X.env.scope es = true → ∀ (op : BoolOp) (p : Pos) (m : M D) (e : Expr), PE X e (tE c m) → PT X e (tBo c (trM m)) →
    PE X (.BoolOp op (e :: es.py) p) (tE c (denB Γ op m es)) ∧ PW X (.BoolOp op (e :: es.py) p) (tBo c (trM (denB Γ op m es)))
  | .nil, X, G, ok, op, p, m, e, h, t => by
    rw [Es.py, denB]
    refine ⟨pe_one h, ?_⟩
    cases op with
    | And => exact pw_and1 t
    | Or => exact pw_or1 t
  | .cons e' es, X, G, ok, op, p, m, e, h, t => by
    rw [okB, Bool.and_eq_true, Bool.and_eq_true] at ok
    have he := sE e' G ok.1.1
    have := sB es G ok.2 op p (den Γ e') e'.py he.1 (he.2 ok.1.2)
    rw [Es.py]
    cases op with
    | And =>
      rw [denB]
      exact ⟨d_and (pe_and h this.1), pimpW (pw_and t this.2) i_tand⟩
    | Or =>
      rw [denB]
      exact ⟨d_or (pe_or h this.1), pimpW (pw_or t this.2) i_tor⟩
theorem sIfs : ∀ (es : Es) {X : Cx}, Gd X c Γ tb n → okIfs tb X.N X.env.scope es = true → PTs X es.py (tBo c (denIfs Γ es))
  | .nil, X, G, ok => by
    rw [Es.py, denIfs]
    refine ⟨fun pins s σ H Q I q => pts_nil.run pins s σ H Q I ?_⟩
    obtain ⟨w, rs, s, d, s', R, e, k⟩ := q
    cases ret_some.mp e
    exact k H w R (Step.refl _ _)
  | .cons e .nil, X, G, ok => by
    rw [okIfs, Bool.and_eq_true] at ok
    rw [Es.py, Es.py, denIfs]
    refine ⟨fun pins s σ H Q I q => (pts_one ((sE e G ok.1).2 ok.2)).run pins s σ H Q I ?_⟩
    obtain ⟨w, rs, s, d, s', R, e1, k⟩ := q
    obtain ⟨d1, s1, e2, e3⟩ := bnd_some.mp e1
    obtain ⟨b, s2, e4, e5⟩ := bnd_some.mp e3
    refine ⟨w, rs, s, b, s2, R, bnd_some.mpr ⟨_, _, e2, e4⟩, fun H' w' R' st => ?_⟩
    split at e5
    · rename_i hb
      rw [denIfs] at e5
      cases ret_some.mp e5
      subst hb
      exact k H' w' R' st
    · rename_i hb
      cases ret_some.mp e5
      rw [Bool.not_eq_true] at hb
      subst hb
      exact k H' w' R' st
  | .cons e (.cons e' es), X, G, ok => by simp [okIfs] at ok
theorem sAs : ∀ (as : As) {X : Cx}, Gd X c Γ tb n → okAs tb X.N X.env.scope as = true → PA X as.py (tAs c (denAs Γ as))
  | .nil, X, G, ok => by rw [As.py, denAs]; exact d_anil
  | .val e as, X, G, ok => by
    rw [okAs, Bool.and_eq_true] at ok
    rw [As.py, denAs]
    exact pimpA (pa_cons (sE e G ok.1).1 (sAs as G ok.2) (e.star _ _)) i_aval
  | .share i x p as, X, G, ok => by
    rw [okAs, Bool.and_eq_true] at ok
    rw [As.py, denAs]
    exact pimpA (pa_cons (name_ok ok.1) (sAs as G ok.2) rfl) i_ashare
theorem sWk : ∀ (it : Wk) {X : Cx}, Gd X c Γ tb n → ∀ t : Tg, okWk tb X.N X.env.scope (isTp t) it = true → PI X t.py it.py (tI c (denIt Γ it))
  | .e a, X, G, t, ok => by
    rw [okWk] at ok
    rw [Wk.py, denIt]
    exact d_iseq G.K (sE a G ok).1
  | .rng a p q, X, G, t, ok => by
    rw [okWk, Bool.and_eq_true] at ok
    rw [Wk.py, denIt]
    exact d_irng (pi_range1 (glb_ok ok.1) (G.blt _ (by decide +kernel)) (pa_cons (sE a G ok.2).1 pa_nil (a.star _ _)) (a.star _ _))
  | .rng2 a b p q, X, G, t, ok => by
    rw [okWk, Bool.and_eq_true, Bool.and_eq_true] at ok
    rw [Wk.py, denIt]
    exact d_irng2 (pi_range2 (glb_ok ok.1.1) (G.blt _ (by decide +kernel)) (pa_cons (sE a G ok.1.2).1 (pa_cons (sE b G ok.2).1 pa_nil (b.star _ _)) (a.star _ _)) (by rw [a.star, b.star]; rfl) (by rw [b.star]; rfl))
  | .enu a p q, X, G, t, ok => by
    rw [okWk, Bool.and_eq_true, Bool.and_eq_true] at ok
    rw [Wk.py, denIt]
    cases t with
    | nm => simp [isTp] at ok
    | tp ts k pp =>
      rw [Tg.py]
      exact d_ienu G.K (pi_enumB (glb_ok ok.1.1) (G.blt _ (by decide +kernel)) (pa_cons (sE a G ok.1.2).1 pa_nil (a.star _ _)) (a.star _ _))
end
end
end Dm

/-! The D machine: statements. -/
namespace Dm
open PySem L2 PyProof.Rows

def endOf (c : Cc) (D : Ends) (w' : Wm) (σ' : L2.St) (H' : Hp) : Fl → Prop
  | .nx => D.nx σ' H'
  | .bk => D.bk σ' H'
  | .ct => D.ct σ' H'
  | .rt o => ∀ v, IsO c w' H' row v o → D.rt v H'
/-- a statement: the value that is returned stands at a place of its own -/
def tS (c : Cc) (m : M Fl) : TS := fun D σ H => ∃ w rs s fl s', Rel c w rs s σ H ∧ m s = some (fl, s') ∧ ∀ σ' H' w', Rel c w' rs s' σ' H' → Step w H w' H' → match fl with
  | .nx => D.nx σ' H'
  | .bk => D.bk σ' H'
  | .ct => D.ct σ' H'
  | .rt o => ∀ v, IsO c w' H' row v o → D.rt v H'
section
variable {X : Cx} {c : Cc} {Γ : Env} {tb : Tb} {n : Nat} {st : Stmt} {sts : List Stmt}
theorem pimpS {t t' : TS} (h : PS X st t) (k : ∀ D σ H, t' D σ H → t D σ H) : PS X st t' := ⟨fun pins s σ H D I q => h.run pins s σ H D I (k D σ H q)⟩
theorem pimpSs {t t' : TS} (h : PSs X sts t) (k : ∀ D σ H, t' D σ H → t D σ H) : PSs X sts t' := ⟨fun pins s σ H D I q => h.run pins s σ H D I (k D σ H q)⟩
theorem s_nil : PSs X [] (tS c (ret .nx)) := pimpSs pss_nil fun D σ H ⟨w, rs, s, fl, s', R, e, k⟩ => by
  cases ret_some.mp e
  exact k σ H w R (Step.refl _ _)
theorem s_cons {m m' : M Fl} (h : PS X st (tS c m)) (h' : PSs X sts (tS c m')) : PSs X (st :: sts) (tS c (andThen m m')) := pimpSs (pss_cons h h') fun D σ H ⟨w, rs, s, fl, s', R, e, k⟩ => by
  obtain ⟨f1, s1, e1, e2⟩ := bnd_some.mp e
  refine ⟨w, rs, s, f1, s1, R, e1, fun σ1 H1 w1 R1 st1 => ?_⟩
  cases f1 with
  | nx => exact ⟨w1, rs, s1, fl, s', R1, e2, fun σ2 H2 w2 R2 st2 => k σ2 H2 w2 R2 (st1.trans st2)⟩
  | bk => cases ret_some.mp e2; exact k σ1 H1 w1 R1 st1
  | ct => cases ret_some.mp e2; exact k σ1 H1 w1 R1 st1
  | rt o => cases ret_some.mp e2; exact k σ1 H1 w1 R1 st1
theorem s_pass {p : Pos} : PS X (.Pass p) (tS c (ret .nx)) := pimpS ps_pass fun D σ H ⟨w, rs, s, fl, s', R, e, k⟩ => by
  cases ret_some.mp e
  exact k σ H w R (Step.refl _ _)
theorem s_exp {m : M D} (h : PS X st (tDrop (tE c m))) : PS X st (tS c (bnd m fun _ => ret .nx)) := pimpS h fun D σ H ⟨w, rs, s, fl, s', R, e, k⟩ => by
  obtain ⟨d, s1, e1, e2⟩ := bnd_some.mp e
  cases ret_some.mp e2
  exact ⟨w, rs, s, d, _, R, e1, fun v H1 w1 R1 q st1 => k σ H1 w1 R1 st1⟩
theorem s_asg {m : M D} {t : Tg} (h : PS X st (tAsg (tE c m) (tG c t))) : PS X st (tS c (bnd m fun d => bnd (setT t d) fun _ => ret .nx)) := pimpS h fun D σ H ⟨w, rs, s, fl, s', R, e, k⟩ => by
  obtain ⟨d, s1, e1, e2⟩ := bnd_some.mp e
  obtain ⟨_, s2, e3, e4⟩ := bnd_some.mp e2
  cases ret_some.mp e4
  exact ⟨w, rs, s, d, s1, R, e1, fun v H1 w1 R1 q st1 => ⟨w1, rs, s1, d, _, R1, q, e3, fun σ' R' a => k σ' H1 w1 R' st1⟩⟩
theorem s_if {m : M Bool} {ma mb : M Fl} (h : PS X st (tIfS (tBo c m) (tS c ma) (tS c mb))) : PS X st (tS c (bnd m fun t => if t then ma else mb)) := pimpS h fun D σ H ⟨w, rs, s, fl, s', R, e, k⟩ => by
  obtain ⟨b, s1, e1, e2⟩ := bnd_some.mp e
  refine ⟨w, rs, s, b, s1, R, e1, fun H1 w1 R1 st1 => ?_⟩
  split at e2
  · rename_i hb
    rw [if_pos hb]
    exact ⟨w1, rs, s1, fl, s', R1, e2, fun σ2 H2 w2 R2 st2 => k σ2 H2 w2 R2 (st1.trans st2)⟩
  · rename_i hb
    rw [if_neg hb]
    exact ⟨w1, rs, s1, fl, s', R1, e2, fun σ2 H2 w2 R2 st2 => k σ2 H2 w2 R2 (st1.trans st2)⟩
theorem s_ret {m : M D} (h : PS X st (tRet (tE c m))) : PS X st (tS c (bnd m fun d => ret (.rt (.leaf d)))) := pimpS h fun D σ H ⟨w, rs, s, fl, s', R, e, k⟩ => by
  obtain ⟨d, s1, e1, e2⟩ := bnd_some.mp e
  cases ret_some.mp e2
  exact ⟨w, rs, s, d, _, R, e1, fun v H1 w1 R1 q st1 => k σ H1 w1 R1 st1 v (.leaf q)⟩
theorem s_bad : PS X st (tS c fail) := ⟨fun _ _ _ _ _ _ ⟨_, _, _, _, _, _, e, _⟩ => (fail_some.mp e).elim⟩
/-- while -/
theorem s_while {mc : M Bool} {mb : M Fl} {N : Nat} (h : PS X st (tWhile (tBo c mc) (tS c mb))) : PS X st (tS c (whileM mc mb N)) := pimpS h fun D σ H ⟨w, rs, s, fl, s', R, e, k⟩ => by
  refine ⟨fun m σ1 H1 => ∃ w1 s1, Rel c w1 rs s1 σ1 H1 ∧ Step w H w1 H1 ∧ whileM mc mb m s1 = some (fl, s'), ⟨N, w, s, R, Step.refl _ _, e⟩, ?_⟩
  rintro m σ1 H1 ⟨w1, s1, R1, st1, e1⟩
  cases m with
  | zero => rw [whileM] at e1; exact (fail_some.mp e1).elim
  | succ m =>
    rw [whileM] at e1
    obtain ⟨b, s2, e2, e3⟩ := bnd_some.mp e1
    refine ⟨w1, rs, s1, b, s2, R1, e2, fun H2 w2 R2 st2 => ?_⟩
    split at e3
    · rename_i hb
      rw [if_pos hb]
      refine ⟨fun σ' H' => ∃ w1 s1, Rel c w1 rs s1 σ' H' ∧ Step w H w1 H' ∧ whileM mc mb m s1 = some (fl, s'), fun σ' H' z => ⟨m, Nat.lt_succ_self m, z⟩, ?_⟩
      obtain ⟨f3, s3, e4, e5⟩ := bnd_some.mp e3
      refine ⟨w2, rs, s2, f3, s3, R2, e4, fun σ4 H4 w4 R4 st4 => ?_⟩
      have stt := (st1.trans st2).trans st4
      cases f3 with
      | nx => exact ⟨w4, s3, R4, stt, e5⟩
      | ct => exact ⟨w4, s3, R4, stt, e5⟩
      | bk => cases ret_some.mp e5; exact k σ4 H4 w4 R4 stt
      | rt o => cases ret_some.mp e5; exact k σ4 H4 w4 R4 stt
    · rename_i hb
      rw [if_neg hb]
      cases ret_some.mp e3
      exact k σ1 H2 w2 R2 (st1.trans st2)
/-- for -/
theorem s_for {t : Tg} {mi : M (List D)} {mb : M Fl} (h : PS X st (tFor (tI c mi) (tG c t) (tS c mb))) : PS X st (tS c (bnd mi fun items => forM t mb items)) := pimpS h fun D σ H ⟨w, rs, s, fl, s', R, e, k⟩ => by
  obtain ⟨items, s0, e0, e1⟩ := bnd_some.mp e
  refine ⟨w, rs, s, items, s0, R, e0, fun J H1 w1 R1 wd st1 => ?_⟩
  refine ⟨fun i m σ2 H2 => m = items.length - i ∧ i ≤ items.length ∧ ∃ w2 s2, Rel c w2 rs s2 σ2 H2 ∧ Step w1 H1 w2 H2 ∧ forM t mb (items.drop i) s2 = some (fl, s'), ⟨items.length, by simp, Nat.zero_le _, w1, s0, R1, Step.refl _ _, by simpa using e1⟩, ?_⟩
  rintro i m σ2 H2 ⟨rfl, hi, w2, s2, R2, st2, e2⟩
  obtain ⟨ws, wg⟩ := wd w2 H2 st2.n
  by_cases hlt : i < items.length
  · have eg : items[i]? = some items[i] := by simp [hlt]
    obtain ⟨g1, g2⟩ := wg i _ eg
    refine .inr ⟨g1, fun σ' H' => i + 1 ≤ items.length ∧ ∃ w2 s2, Rel c w2 rs s2 σ' H' ∧ Step w1 H1 w2 H' ∧ forM t mb (items.drop (i + 1)) s2 = some (fl, s'), fun σ' H' z => ⟨items.length - (i + 1), by omega, rfl, z⟩, fun x H3 y => ?_⟩
    obtain ⟨w3, sm3, q3⟩ := g2 x H3 y
    rw [List.drop_eq_getElem_cons hlt, forM] at e2
    obtain ⟨_, s3, e3, e4⟩ := bnd_some.mp e2
    obtain ⟨f5, s5, e5, e6⟩ := bnd_some.mp e4
    refine ⟨w3, rs, s2, _, s3, R2.ext sm3, q3, e3, fun σ4 R4 ag => ?_⟩
    refine ⟨w3, rs, s3, f5, s5, R4, e5, fun σ6 H6 w6 R6 st6 => ?_⟩
    have stt : Step w1 H1 w6 H6 := (st2.trans sm3.step).trans st6
    cases f5 with
    | nx => exact ⟨hlt, w6, s5, R6, stt, e6⟩
    | ct => exact ⟨hlt, w6, s5, R6, stt, e6⟩
    | bk => cases ret_some.mp e6; exact k σ6 H6 w6 R6 (st1.trans stt)
    | rt o => cases ret_some.mp e6; exact k σ6 H6 w6 R6 (st1.trans stt)
  · have ei : i = items.length := by omega
    subst ei
    rw [List.drop_length, forM] at e2
    cases ret_some.mp e2
    exact .inl ⟨ws, k σ2 H2 w2 R2 (st1.trans st2)⟩
end
end Dm

/-! The D machine: new lists, and new lists of new lists. -/
namespace Dm
open PySem L2 PyProof.Rows
/-- a new place -/
def Fresh (w : Wm) (H : Hp) (p : Addr) : Prop := ∀ a o, H a = some o → (w a = .no ∨ w a = .out) → a ≠ p
def wset (w : Wm) (p : Addr) (x : Ow) : Wm := fun a => if a = p then x else w a
theorem wset_same {w : Wm} {p : Addr} {x : Ow} : wset w p x p = x := by unfold wset; rw [if_pos rfl]
theorem wset_ne {w : Wm} {p a : Addr} {x : Ow} (h : a ≠ p) : wset w p x a = w a := by unfold wset; rw [if_neg h]
theorem Step.relabel {w w' : Wm} {H H' : Hp} {p : Addr} {x : Ow} (st : Step w H w' H') (f : Fresh w H p) : Step w H (wset w' p x) H' := fun a o h k => by
  obtain ⟨h1, h2⟩ := st a o h k
  exact ⟨h1, by rw [wset_ne (f a o h k)]; exact h2⟩
def tF (c : Cc) (m : M (List D)) : TE := fun σ H Q => ∃ w rs s ds s', Rel c w rs s σ H ∧ m s = some (ds, s') ∧
  ∀ p vs H' w', Rel c w' rs s' σ H' → H' p = some (.lst vs) → w' p = .out → IsAll c w' H' vs ds → Fresh w H p → Step w H w' H' → Q (.ref p) H'
section
variable {X : Cx} {c : Cc} {Γ : Env} {tb : Tb} {n : Nat} {st : Stmt} {sts : List Stmt} {e : Expr} {w : Wm} {rs : List V} {s : St} {σ : L2.St} {H : Hp}
theorem fresh_of {w w1 : Wm} {H H1 : Hp} {p : Addr} (st : Step w H w1 H1) (hp : H1 p = none) : Fresh w H p := fun a o h k z => by
  subst z
  rw [(st a o h k).1] at hp
  cases hp
/-- rows that wait -/
inductive RowsP (c : Cc) (w : Wm) (H : Hp) : List Addr → List (List D) → Prop
  | nil : RowsP c w H [] []
  | cons {a : Addr} {us : List V} {ps : List Addr} {ds : List D} {dss : List (List D)} : H a = some (.lst us) → IsAll c w H us ds → RowsP c w H ps dss → RowsP c w H (a :: ps) (ds :: dss)
theorem RowsP.length {w : Wm} {H : Hp} : ∀ {ps : List Addr} {dss : List (List D)}, RowsP c w H ps dss → ps.length = dss.length
  | _, _, .nil => rfl
  | _, _, .cons _ _ r => by rw [List.length_cons, List.length_cons, RowsP.length r]
theorem RowsP.has {w : Wm} {H : Hp} : ∀ {ps : List Addr} {dss : List (List D)}, RowsP c w H ps dss → ∀ a ∈ ps, ∃ o, H a = some o
  | _, _, .nil, a, h => nomatch h
  | _, _, .cons h _ r, a, ha => by
    rcases List.mem_cons.mp ha with rfl | ha
    · exact ⟨_, h⟩
    · exact RowsP.has r a ha
theorem RowsP.stepW {w w' : Wm} {H H' : Hp} (st : StepN w H w' H') : ∀ {ps : List Addr} {dss : List (List D)}, (∀ a ∈ ps, ∀ o, H a = some o → H' a = some o) → RowsP c w H ps dss → RowsP c w' H' ps dss
  | _, _, _, .nil => .nil
  | _, _, hk, .cons h q r => .cons (hk _ List.mem_cons_self _ h) (q.stepN st) (RowsP.stepW st (fun a ha => hk a (List.mem_cons_of_mem _ ha)) r)
theorem RowsP.step {w w' : Wm} {H H' : Hp} (st : Step w H w' H') {ps : List Addr} {dss : List (List D)} (r : RowsP c w H ps dss) (ho : ∀ a ∈ ps, w a = .out) : RowsP c w' H' ps dss :=
  r.stepW st.n fun a ha o h => (st a o h (.inr (ho a ha))).1
theorem RowsP.upd {w : Wm} {H : Hp} {p : Addr} {o' : HO} (st : StepN w H w (L2.upd H p o')) {ps : List Addr} {dss : List (List D)} (r : RowsP c w H ps dss) (ne : ∀ a ∈ ps, a ≠ p) : RowsP c w (L2.upd H p o') ps dss :=
  r.stepW st fun a ha o h => by rw [upd_ne (ne a ha)]; exact h
theorem RowsP.append {w : Wm} {H : Hp} : ∀ {ps qs : List Addr} {dss ess : List (List D)}, RowsP c w H ps dss → RowsP c w H qs ess → RowsP c w H (ps ++ qs) (dss ++ ess)
  | _, _, _, _, .nil, r => r
  | _, _, _, _, .cons h q r, r' => .cons h q (RowsP.append r r')
def tRw (c : Cc) (m : M (List (List D))) : TE := fun σ H Q => ∃ w rs s dss s', Rel c w rs s σ H ∧ m s = some (dss, s') ∧
  ∀ p ps H' w', Rel c w' rs s' σ H' → H' p = some (.lst (ps.map V.ref)) → RowsP c w' H' ps dss → (p :: ps).Nodup → (∀ a ∈ p :: ps, w' a = .out ∧ Fresh w H a) → Step w H w' H' → Q (.ref p) H'
theorem i_compF {tg : Tg} {ids : List Nat} {mi : M (List D)} {mt : M Bool} {me : M D} (hid : ∀ i ∈ tg.ids, i ∈ ids) :
    ∀ σ H Q, tF c (bnd mi fun items => inBlk ids (runItems ids tg (bnd mt fun b => if b then bnd me fun d => ret [d] else ret []) items)) σ H Q → tLc (tI c mi) (tG c tg) (tBo c mt) (tE c me) ids σ H Q := fun σ H Q ⟨w, rs, s, d, s', R, e, k⟩ => by
  obtain ⟨items, s1, e1, e2⟩ := bnd_some.mp e
  unfold inBlk at e2
  split at e2
  · rename_i ds s2 e3
    split at e2
    · rename_i hz
      cases e2
      refine ⟨w, rs, s, items, s1, R, e1, fun J H1 w1 R1 wd st1 A0 hA => ?_⟩
      let body : M (List D) := bnd mt fun b => if b then bnd me fun d => ret [d] else ret []
      let Wp : Nat → Hp → Prop := fun i H => i ≤ items.length ∧ ∃ w2 sI acc as, Rel c w2 rs { sI with L := wipeL sI.L ids } (L2.wipe σ ids) H ∧ H A0 = some (.lst acc) ∧ w2 A0 = .out ∧ IsAll c w2 H acc as ∧
        StepN w1 H1 w2 H ∧ (∀ a o, H1 a = some o → w1 a = .out → H a = some o ∧ w2 a = .out) ∧ ∃ zs, runItems ids tg body (items.drop i) sI = some (zs, s2) ∧ as ++ zs = d
      have W0 : Wp 0 (upd H1 A0 (.lst [])) := by
        refine ⟨Nat.zero_le _, wout w1 A0, s1, [], [], ?_, upd_same, wout_same, .nil, (Same2.wout hA).step.n, fun a o h k => ?_, d, by simpa using e3, rfl⟩
        · exact (R1.ext (Same2.wout hA)).wipe ids
        · have := Same2.wout (o := .lst []) (w := w1) hA a o h
          exact ⟨this.1, this.2.trans k⟩
      refine ⟨fun i m H => m = items.length - i ∧ Wp i H, ⟨items.length, by simp, W0⟩, ?_⟩
      rintro i m H2 ⟨rfl, hi, w2, sI, acc, as, R2, hacc, hw2, ra, st2, so2, zs, ez, ed⟩
      have stp : Step w1 H1 w2 H2 := fun a o h k => by
        rcases k with k | k
        · exact ⟨(st2 a o h k).1, (st2 a o h k).2.trans k.symm⟩
        · exact ⟨(so2 a o h k).1, (so2 a o h k).2.trans k.symm⟩
      obtain ⟨wstop, wgo⟩ := wd w2 H2 stp.n
      by_cases hlt : i < items.length
      · refine .inr ?_
        have eg : items[i]? = some items[i] := by simp [hlt]
        obtain ⟨g1, g2⟩ := wgo i _ eg
        refine ⟨g1, Wp (i + 1), fun H' hW => ⟨items.length - (i + 1), by omega, rfl, hW⟩, fun x H3 y => ?_⟩
        obtain ⟨w3, sm3, q3⟩ := g2 x H3 y
        -- the machine's turn
        rw [List.drop_eq_getElem_cons hlt, runItems] at ez
        obtain ⟨_, t1, ez1, ez⟩ := bnd_some.mp ez
        cases ez1
        obtain ⟨_, t2, ez2, ez⟩ := bnd_some.mp ez
        obtain ⟨ys, t3, ez3, ez⟩ := bnd_some.mp ez
        obtain ⟨zs', t4, ez4, ez⟩ := bnd_some.mp ez
        cases ret_some.mp ez
        obtain ⟨b, t5, eb, ey⟩ := bnd_some.mp ez3
        have R3 := R2.ext sm3
        have acc3 : H3 A0 = some (.lst acc) := (sm3 _ _ hacc).1
        have out3 : w3 A0 = .out := (sm3 _ _ hacc).2.trans hw2
        refine ⟨w3, rs, _, _, t2, R3, q3, ez2, fun σ4 R4 ag => ⟨?_, ?_⟩⟩
        · rw [wipe_of_agree ag hid, wipe_wipe]
        refine ⟨w3, rs, t2, b, t5, R4, eb, fun H5 w5 R5 st5 => ?_⟩
        have so5 : Step w2 H2 w5 H5 := sm3.step.trans st5
        have fin : ∀ {w6 : Wm} {H6 : Hp} {t6 : St} {acc' : List V} {as' : List D}, Rel c w6 rs t6 σ4 H6 → H6 A0 = some (.lst acc') → w6 A0 = .out → IsAll c w6 H6 acc' as' → StepN w1 H1 w6 H6 → (∀ a o, H1 a = some o → w1 a = .out → H6 a = some o ∧ w6 a = .out) →
            runItems ids tg body (items.drop (i + 1)) t6 = some (zs', s2) → as' ++ zs' = d → Wp (i + 1) H6 := by
          intro w6 H6 t6 acc' as' r1 r2 r3 r4 r5 r6 r7 r8
          refine ⟨hlt, w6, t6, acc', as', ?_, r2, r3, r4, r5, r6, zs', r7, r8⟩
          have := r1.wipe ids
          rw [wipe_of_agree ag hid, wipe_wipe] at this
          exact this
        have ws5 := stp.trans so5
        have hA5 : H5 A0 = some (.lst acc) ∧ w5 A0 = .out := by
          have := st5 A0 _ acc3 (.inr out3)
          exact ⟨this.1, this.2.trans out3⟩
        dsimp only
        split at ey
        · rename_i hb
          rw [if_pos hb]
          obtain ⟨d6, t6, e6, ey⟩ := bnd_some.mp ey
          cases ret_some.mp ey
          refine ⟨w5, rs, t5, d6, _, R5, e6, fun v6 H6 w6 R6 q6 st6 => ⟨acc, ?_, ?_, ?_⟩⟩
          · exact (st6 _ _ hA5.1 (.inr hA5.2)).1
          · have := ra.length
            have h2 : (as ++ ([d6] ++ zs')).length ≤ sizeLine := by rw [ed]; exact hz
            rw [List.length_append, List.length_append, List.length_singleton] at h2
            omega
          · have hA6 := st6 _ _ hA5.1 (.inr hA5.2)
            have o6 : w6 A0 = .out := hA6.2.trans hA5.2
            have gN : StepN w6 H6 w6 (upd H6 A0 (.lst (acc ++ [v6]))) := StepN.grow o6
            have ws6 := ws5.trans st6
            refine fin (as' := as ++ [d6]) (R6.grow o6) upd_same o6 ?_ ?_ ?_ ez4 (by rw [← ed]; simp)
            · exact ((ra.step (so5.trans st6)).append (.cons q6 .nil)).stepN gN
            · exact fun a o h k => gN a o (ws6.n a o h k).1 (ws6.n a o h k).2
            · intro a o h k
              have ne : a ≠ A0 := ne_of_none h hA
              have z := ws6 a o h (.inr k)
              exact ⟨by rw [upd_ne ne]; exact z.1, z.2.trans k⟩
        · rename_i hb
          rw [if_neg hb]
          cases ret_some.mp ey
          exact fin R5 hA5.1 hA5.2 (ra.step so5) ws5.n (fun a o h k => ⟨(ws5 a o h (.inr k)).1, (ws5 a o h (.inr k)).2.trans k⟩) ez4 (by rw [← ed]; rfl)
      · have ei : i = items.length := by omega
        subst ei
        refine .inl ⟨wstop, ?_⟩
        rw [List.drop_length, runItems] at ez
        cases ret_some.mp ez
        rw [List.append_nil] at ed
        subst ed
        exact k A0 _ H2 w2 (R1.back R2 stp) hacc hw2 ra (fresh_of st1 hA) (st1.trans stp)
    · cases e2
  · cases e2
theorem i_compR {tg : Tg} {ids : List Nat} {mi : M (List D)} {mt : M Bool} {me : M (List D)} (hid : ∀ i ∈ tg.ids, i ∈ ids) :
    ∀ σ H Q, tRw c (bnd mi fun items => inBlk ids (runItems ids tg (bnd mt fun b => if b then bnd me fun d => ret [d] else ret []) items)) σ H Q → tLc (tI c mi) (tG c tg) (tBo c mt) (tF c me) ids σ H Q := fun σ H Q ⟨w, rs, s, d, s', R, e, k⟩ => by
  obtain ⟨items, s1, e1, e2⟩ := bnd_some.mp e
  unfold inBlk at e2
  split at e2
  · rename_i ds s2 e3
    split at e2
    · rename_i hz
      cases e2
      refine ⟨w, rs, s, items, s1, R, e1, fun J H1 w1 R1 wd st1 A0 hA => ?_⟩
      let body : M (List (List D)) := bnd mt fun b => if b then bnd me fun d => ret [d] else ret []
      let Wp : Nat → Hp → Prop := fun i H => i ≤ items.length ∧ ∃ w2 sI acc as ps, Rel c w2 rs { sI with L := wipeL sI.L ids } (L2.wipe σ ids) H ∧ H A0 = some (.lst acc) ∧ w2 A0 = .out ∧ acc = ps.map V.ref ∧ RowsP c w2 H ps as ∧ ps.Nodup ∧ (∀ a ∈ ps, w2 a = .out ∧ a ≠ A0 ∧ Fresh w1 H1 a) ∧
        StepN w1 H1 w2 H ∧ (∀ a o, H1 a = some o → w1 a = .out → H a = some o ∧ w2 a = .out) ∧ ∃ zs, runItems ids tg body (items.drop i) sI = some (zs, s2) ∧ as ++ zs = d
      have W0 : Wp 0 (upd H1 A0 (.lst [])) := by
        refine ⟨Nat.zero_le _, wout w1 A0, s1, [], [], [], ?_, upd_same, wout_same, rfl, .nil, .nil, (fun _ h => (List.not_mem_nil h).elim), (Same2.wout hA).step.n, fun a o h k => ?_, d, by simpa using e3, rfl⟩
        · exact (R1.ext (Same2.wout hA)).wipe ids
        · have := Same2.wout (o := .lst []) (w := w1) hA a o h
          exact ⟨this.1, this.2.trans k⟩
      refine ⟨fun i m H => m = items.length - i ∧ Wp i H, ⟨items.length, by simp, W0⟩, ?_⟩
      rintro i m H2 ⟨rfl, hi, w2, sI, acc, as, ps, R2, hacc, hw2, eacc, ra, nd, hps, st2, so2, zs, ez, ed⟩
      have stp : Step w1 H1 w2 H2 := fun a o h k => by
        rcases k with k | k
        · exact ⟨(st2 a o h k).1, (st2 a o h k).2.trans k.symm⟩
        · exact ⟨(so2 a o h k).1, (so2 a o h k).2.trans k.symm⟩
      obtain ⟨wstop, wgo⟩ := wd w2 H2 stp.n
      by_cases hlt : i < items.length
      · refine .inr ?_
        have eg : items[i]? = some items[i] := by simp [hlt]
        obtain ⟨g1, g2⟩ := wgo i _ eg
        refine ⟨g1, Wp (i + 1), fun H' hW => ⟨items.length - (i + 1), by omega, rfl, hW⟩, fun x H3 y => ?_⟩
        obtain ⟨w3, sm3, q3⟩ := g2 x H3 y
        -- the machine's turn
        rw [List.drop_eq_getElem_cons hlt, runItems] at ez
        obtain ⟨_, t1, ez1, ez⟩ := bnd_some.mp ez
        cases ez1
        obtain ⟨_, t2, ez2, ez⟩ := bnd_some.mp ez
        obtain ⟨ys, t3, ez3, ez⟩ := bnd_some.mp ez
        obtain ⟨zs', t4, ez4, ez⟩ := bnd_some.mp ez
        cases ret_some.mp ez
        obtain ⟨b, t5, eb, ey⟩ := bnd_some.mp ez3
        have R3 := R2.ext sm3
        have acc3 : H3 A0 = some (.lst acc) := (sm3 _ _ hacc).1
        have out3 : w3 A0 = .out := (sm3 _ _ hacc).2.trans hw2
        refine ⟨w3, rs, _, _, t2, R3, q3, ez2, fun σ4 R4 ag => ⟨?_, ?_⟩⟩
        · rw [wipe_of_agree ag hid, wipe_wipe]
        refine ⟨w3, rs, t2, b, t5, R4, eb, fun H5 w5 R5 st5 => ?_⟩
        have so5 : Step w2 H2 w5 H5 := sm3.step.trans st5
        have fin : ∀ {w6 : Wm} {H6 : Hp} {t6 : St} {ps' : List Addr} {as' : List (List D)}, Rel c w6 rs t6 σ4 H6 → H6 A0 = some (.lst (ps'.map V.ref)) → w6 A0 = .out → RowsP c w6 H6 ps' as' → ps'.Nodup → (∀ a ∈ ps', w6 a = .out ∧ a ≠ A0 ∧ Fresh w1 H1 a) → StepN w1 H1 w6 H6 → (∀ a o, H1 a = some o → w1 a = .out → H6 a = some o ∧ w6 a = .out) →
            runItems ids tg body (items.drop (i + 1)) t6 = some (zs', s2) → as' ++ zs' = d → Wp (i + 1) H6 := by
          intro w6 H6 t6 ps' as' r1 r2 r3 r4 rn rp r5 r6 r7 r8
          refine ⟨hlt, w6, t6, _, as', ps', ?_, r2, r3, rfl, r4, rn, rp, r5, r6, zs', r7, r8⟩
          have := r1.wipe ids
          rw [wipe_of_agree ag hid, wipe_wipe] at this
          exact this
        have ws5 := stp.trans so5
        have hA5 : H5 A0 = some (.lst acc) ∧ w5 A0 = .out := by
          have := st5 A0 _ acc3 (.inr out3)
          exact ⟨this.1, this.2.trans out3⟩
        dsimp only
        split at ey
        · rename_i hb
          rw [if_pos hb]
          obtain ⟨d6, t6, e6, ey⟩ := bnd_some.mp ey
          cases ret_some.mp ey
          refine ⟨w5, rs, t5, d6, _, R5, e6, fun p6 us6 H6 w6 R6 hp6 hw6 q6 f6 st6 => ⟨acc, ?_, ?_, ?_⟩⟩
          · exact (st6 _ _ hA5.1 (.inr hA5.2)).1
          · have := ra.length
            have h2 : (as ++ ([d6] ++ zs')).length ≤ sizeLine := by rw [ed]; exact hz
            rw [List.length_append, List.length_append, List.length_singleton] at h2
            rw [eacc, List.length_map]
            omega
          · have hA6 := st6 _ _ hA5.1 (.inr hA5.2)
            have o6 : w6 A0 = .out := hA6.2.trans hA5.2
            have gN : StepN w6 H6 w6 (upd H6 A0 (.lst (acc ++ [.ref p6]))) := StepN.grow o6
            have ws6 := ws5.trans st6
            have so6 : Step w2 H2 w6 H6 := so5.trans st6
            have n6 : p6 ≠ A0 := fun z => f6 A0 _ hA5.1 (.inr hA5.2) z.symm
            have hps6 : ∀ a ∈ ps, w6 a = .out ∧ a ≠ A0 ∧ Fresh w1 H1 a := fun a ha => by
              obtain ⟨z1, z2, z3⟩ := hps a ha
              obtain ⟨o, ho⟩ := ra.has a ha
              exact ⟨(so6 a o ho (.inr z1)).2.trans z1, z2, z3⟩
            have np : p6 ∉ ps := fun hp => by
              obtain ⟨o, ho⟩ := ra.has p6 hp
              have z := so5 p6 o ho (.inr (hps p6 hp).1)
              exact f6 p6 o z.1 (.inr (z.2.trans (hps p6 hp).1)) rfl
            have e7 : acc ++ [V.ref p6] = (ps ++ [p6]).map V.ref := by rw [eacc, List.map_append]; rfl
            refine fin (ps' := ps ++ [p6]) (as' := as ++ [d6]) (R6.grow o6) (by rw [← e7]; exact upd_same) o6 ?_ ?_ ?_ ?_ ?_ ez4 (by rw [← ed]; simp)
            · refine ((ra.step so6 fun a ha => (hps a ha).1).append (.cons hp6 q6 .nil)).upd gN fun a ha => ?_
              rcases List.mem_append.mp ha with ha | ha
              · exact (hps a ha).2.1
              · rw [List.mem_singleton] at ha; rw [ha]; exact n6
            · rw [List.nodup_append]
              refine ⟨nd, by simp, fun a ha b hb => ?_⟩
              rw [List.mem_singleton] at hb
              subst hb
              exact fun z => np (z ▸ ha)
            · intro a ha
              rcases List.mem_append.mp ha with ha | ha
              · exact hps6 a ha
              · rw [List.mem_singleton] at ha; subst ha
                exact ⟨hw6, n6, fun b o hb kb => f6 b o (ws5 b o hb kb).1 (by rw [(ws5 b o hb kb).2]; exact kb)⟩
            · exact fun a o h k => gN a o (ws6.n a o h k).1 (ws6.n a o h k).2
            · intro a o h k
              have ne : a ≠ A0 := ne_of_none h hA
              have z := ws6 a o h (.inr k)
              exact ⟨by rw [upd_ne ne]; exact z.1, z.2.trans k⟩
        · rename_i hb
          rw [if_neg hb]
          cases ret_some.mp ey
          exact fin R5 (eacc ▸ hA5.1) hA5.2 (ra.step so5 fun a ha => (hps a ha).1) nd (fun a ha => by
            obtain ⟨z1, z2, z3⟩ := hps a ha
            obtain ⟨o, ho⟩ := ra.has a ha
            exact ⟨(so5 a o ho (.inr z1)).2.trans z1, z2, z3⟩) ws5.n (fun a o h k => ⟨(ws5 a o h (.inr k)).1, (ws5 a o h (.inr k)).2.trans k⟩) ez4 (by rw [← ed]; rfl)
      · have ei : i = items.length := by omega
        subst ei
        refine .inl ⟨wstop, ?_⟩
        rw [List.drop_length, runItems] at ez
        cases ret_some.mp ez
        rw [List.append_nil] at ed
        subst ed
        subst eacc
        refine k A0 ps H2 w2 (R1.back R2 stp) hacc ra (List.nodup_cons.mpr ⟨fun z => (hps A0 z).2.1 rfl, nd⟩) (fun a ha => ?_) (st1.trans stp)
        rcases List.mem_cons.mp ha with rfl | ha
        · exact ⟨hw2, fresh_of st1 hA⟩
        · exact ⟨(hps a ha).1, fun b o hb kb => (hps a ha).2.2 b o (st1 b o hb kb).1 (by rw [(st1 b o hb kb).2]; exact kb)⟩
    · cases e2
  · cases e2
end
end Dm

/-! The D machine: assignments. -/
namespace Dm
open PySem L2 PyProof.Rows
section
variable {X : Cx} {c : Cc} {Γ : Env} {tb : Tb} {n : Nat} {st : Stmt} {sts : List Stmt} {e : Expr} {w : Wm} {rs : List V} {s : St} {σ : L2.St} {H : Hp}
theorem i_flst {ms : M (List D)} : ∀ σ H Q, tF c (bnd ms fun ds => if ds.length ≤ sizeLine then ret ds else fail) σ H Q → tLst (tL c ms) σ H Q := fun σ H Q ⟨w, rs, s, d, s', R, e, k⟩ => by
  obtain ⟨d1, s1, e1, e⟩ := bnd_some.mp e
  split at e
  · rename_i hz
    cases ret_some.mp e
    refine ⟨w, rs, s, _, _, R, e1, fun v1 H1 w1 R1 q1 st1 => ⟨by rw [q1.length]; exact hz, fun p hp => ?_⟩⟩
    have sm : Same2 w1 H1 (wout w1 p) (upd H1 p (.lst v1)) := Same2.wout hp
    exact k p v1 _ _ (R1.ext sm) upd_same wout_same (q1.step sm.step) (fresh_of st1 hp) (st1.trans sm.step)
  · exact (fail_some.mp e).elim
theorem i_fconv {m : M D} : ∀ σ H Q, tF c (bnd m fun x => ofO (itD x)) σ H Q → tCB (rB1 c.K .list) (tCons (tE c m) tNil) σ H Q := fun σ H Q ⟨w, rs, s, d, s', R, e, k⟩ => by
  obtain ⟨d1, s1, e1, e5⟩ := bnd_some.mp e
  obtain ⟨z, ez, ez'⟩ := ofO_some.mp e5
  injection ez' with z1 z2; subst z1 z2
  refine ⟨w, rs, s, d1, _, R, e1, fun v1 H1 w1 R1 q1 st1 => ?_⟩
  have fin : ∀ {vs : List V}, IsAll c w1 H1 vs d → ∀ l, H1 l = none → Q (.ref l) (upd H1 l (.lst vs)) := fun {vs} r l hl => by
    have sm : Same2 w1 H1 (wout w1 l) (upd H1 l (.lst vs)) := Same2.wout hl
    exact k l vs _ _ (R1.ext sm) upd_same wout_same (r.step sm.step) (fresh_of st1 hl) (st1.trans sm.step)
  cases q1 <;> simp only [itD] at ez <;> try cases ez
  · rename_i h r
    exact ⟨_, _, rfl, .inl h.sq, fin r⟩
  · rename_i h r
    exact ⟨_, _, rfl, .inr h.sq, fin r⟩
/-- a comprehension of one clause -/
def okLc (tb : Tb) (N : List Str) (sc : Scope) (t : Tg) (it : Wk) (ifs : Es) (scope : Scope) (own : List (Str × Nat)) : Bool :=
  blkC N sc scope own && (t.ids.all fun i => (own.map (·.2)).contains i) && okT N (relS scope sc) (fun x => scope.names.lookup x == some .cell) t && okWk tb N sc (isTp t) it && okIfs tb N (relS scope sc) ifs
theorem i_fcat {m1 m2 : M D} : ∀ σ H Q, tF c (bnd m1 fun x => bnd m2 fun y => ofO (catF x y)) σ H Q → tOp (rBin .Add) (tE c m1) (tE c m2) σ H Q := fun σ H Q ⟨w, rs, s, d, s', R, e, k⟩ => by
  obtain ⟨x, s1, e1, e⟩ := bnd_some.mp e
  obtain ⟨y, s2, e2, e⟩ := bnd_some.mp e
  obtain ⟨z, ez, ez'⟩ := ofO_some.mp e
  injection ez' with z1 z2; subst z1 z2
  refine ⟨w, rs, s, x, s1, R, e1, fun v1 H1 w1 R1 q1 st1 => ⟨w1, rs, s1, y, _, R1, e2, fun v2 H2 w2 R2 q2 st2 => ?_⟩⟩
  have q1 := q1.step st2
  unfold catF at ez
  split at ez
  · split at ez
    · rename_i xs ys hc
      cases ez
      cases q1 with
      | @lst _ vs1 _ h1 r1 =>
        cases q2 with
        | @lst _ vs2 _ h2 r2 =>
          refine .inr ⟨_, _, _, _, rfl, rfl, h1.2, h2.2, by rw [r1.length, r2.length]; exact hc, fun p hp => ?_⟩
          have sm : Same2 w2 H2 (wout w2 p) (upd H2 p (.lst (vs1 ++ vs2))) := Same2.wout hp
          exact k p _ _ _ (R2.ext sm) upd_same wout_same ((r1.append r2).step sm.step) (fresh_of (st1.trans st2) hp) ((st1.trans st2).trans sm.step)
    · cases ez
  · cases ez
theorem i_fsrt {m : M D} : ∀ σ H Q, tF c (bnd m fun x => match srtD x with
    | some (.lst ds) => ret ds
    | _ => fail) σ H Q → tUn (fun x H Q => rSortedI c.K [x] H Q) (tE c m) σ H Q := fun σ H Q ⟨w, rs, s, d, s', R, e, k⟩ => by
  obtain ⟨x, s1, e1, e⟩ := bnd_some.mp e
  refine ⟨w, rs, s, x, s1, R, e1, fun v1 H1 w1 R1 q1 st1 => ?_⟩
  cases ex : srtD x with
  | none => simp only [ex] at e; exact (fail_some.mp e).elim
  | some y =>
    simp only [ex] at e
    unfold srtD at ex
    split at ex
    · rename_i xs
      split at ex
      · rename_i ns ens
        cases ex
        cases ret_some.mp e
        have := allI_some ens
        subst this
        cases q1 with
        | lst h r =>
          have := r.ints
          subst this
          refine ⟨_, ns, rfl, h.sq, fun ns' p hp hs hn => ?_⟩
          rw [srt_unique (hp.trans (srtI_perm ns).symm) hs (srtI_srt ns)]
          have sm : Same2 w1 H1 (wout w1 p) (upd H1 p (.lst ((srtI ns).map V.int))) := Same2.wout hn
          exact k p _ _ _ (R1.ext sm) upd_same wout_same (.ofInts _) (fresh_of st1 hn) (st1.trans sm.step)
      · cases ex
    · cases ex
def okF (tb : Tb) (N : List Str) (sc : Scope) : E → Bool
  | .bin a .Add b _ => okE tb N sc a && okE tb N sc b
  | .srt _ e _ => glb sc "sorted" && okE tb N sc e
  | .lst es _ => okEs tb N sc es
  | .conv .list _ e _ => glb sc "list" && okE tb N sc e
  | .comp elt t it ifs scope own _ => okLc tb N sc t it ifs scope own && okE tb N (relS scope sc) elt
  | _ => false
def okR (tb : Tb) (N : List Str) (sc : Scope) : E → Bool
  | .comp elt t it ifs scope own _ => okLc tb N sc t it ifs scope own && okF tb N (relS scope sc) elt
  | _ => false
theorem sLc {X : Cx} (G : Gd X c Γ tb n) {t : Tg} {it : Wk} {ifs : Es} {scope : Scope} {own : List (Str × Nat)} {te : TE} {elt : Expr} {p : Pos} (ok : okLc tb X.N X.env.scope t it ifs scope own = true)
    (h : ∀ {X' : Cx}, Gd X' c Γ tb n → X'.N = X.N → X'.env.scope = relS scope X.env.scope → PE X' elt te) : PE X (.ListComp elt [⟨t.py, it.py, ifs.py, 0⟩] scope p) (tLc (tI c (denIt Γ it)) (tG c t) (tBo c (denIfs Γ ifs)) te (own.map (·.2))) := by
  unfold okLc at ok
  simp only [Bool.and_eq_true] at ok
  obtain ⟨⟨⟨⟨h1, h2⟩, h3⟩, h4⟩, h5⟩ := ok
  refine pe_lc G.calm G.nd (sWk it G t h4) (blkOk_by h1) (fun s H C cl fp => ?_) (fun s H C cl fp => ?_) (fun s H C cl fp => ?_) (it.nofold _)
  · exact sT (X := X.blk s H scope (compEnvC scope cl C X.env) fp) G.nd G.calm t h3
  · exact sIfs ifs (G.blk s H scope _ fp) h5
  · exact h (G.blk s H scope _ fp) rfl rfl
theorem okLc_ids {N : List Str} {sc : Scope} {t : Tg} {it : Wk} {ifs : Es} {scope : Scope} {own : List (Str × Nat)} (ok : okLc tb N sc t it ifs scope own = true) : ∀ i ∈ t.ids, i ∈ own.map (·.2) := fun i hi => by
  unfold okLc at ok
  simp only [Bool.and_eq_true] at ok
  simpa using List.all_eq_true.mp ok.1.1.1.2 i hi
theorem sF (e : E) {X : Cx} (G : Gd X c Γ tb n) (ok : okF tb X.N X.env.scope e = true) : PE X e.py (tF c (denF Γ e)) := by
  unfold okF at ok
  split at ok
  · rw [Bool.and_eq_true] at ok
    rw [E.py, denF]
    exact pimp (pe_op (opr_bin .Add) (sE _ G ok.1).1 (sE _ G ok.2).1) i_fcat
  · rename_i p e q
    rw [Bool.and_eq_true] at ok
    rw [E.py, denF]
    have cr : CallR X (.builtin "sorted") (rSortedI c.K) := by rw [← G.K]; exact cr_sortedI
    exact pimp (pe_callB cr (glb_ok ok.1) (G.blt _ (by decide +kernel)) (by decide +kernel) (pa_cons (sE e G ok.2).1 pa_nil (e.star _ _)) (he := e.star _ _)) fun σ H Q z => i_fsrt σ H Q z
  · rw [E.py, denF]
    exact pimp (pe_lst (sEs _ G ok)) i_flst
  · rw [Bool.and_eq_true] at ok
    rw [E.py, denF]
    exact pimp (pe_b1 (b := .list) G.calm G.K ⟨by decide, by decide, by decide⟩ (glb_ok ok.1) (G.blt _ (by decide +kernel)) (sE _ G ok.2).1) i_fconv
  · rw [Bool.and_eq_true] at ok
    rw [E.py, denF]
    exact pimp (sLc G ok.1 fun G' e1 e2 => (sE _ G' (by rw [e1, e2]; exact ok.2)).1) (i_compF (okLc_ids ok.1))
  · cases ok
theorem sR (e : E) {X : Cx} (G : Gd X c Γ tb n) (ok : okR tb X.N X.env.scope e = true) : PE X e.py (tRw c (denR Γ e)) := by
  unfold okR at ok
  split at ok
  · rw [Bool.and_eq_true] at ok
    rw [E.py, denR]
    exact pimp (sLc G ok.1 fun G' e1 e2 => sF _ G' (by rw [e1, e2]; exact ok.2)) (i_compR (okLc_ids ok.1))
  · cases ok
/-- what waits to be stored, with its own places and their paths -/
def pre (n : Nat) (x : Addr × List Nat) : Addr × List Nat := (x.1, n :: x.2)
def rlab : Nat → List Addr → List (Addr × List Nat)
  | _, [] => []
  | n, a :: ps => (a, [n]) :: rlab (n + 1) ps
theorem rlab_fst : ∀ (n : Nat) (ps : List Addr), (rlab n ps).map (·.1) = ps
  | _, [] => rfl
  | n, a :: ps => by rw [rlab, List.map_cons, rlab_fst]
theorem rlab_mem : ∀ {n : Nat} {ps : List Addr} {x : Addr × List Nat}, x ∈ rlab n ps → ∃ i, ps[i]? = some x.1 ∧ x.2 = [n + i]
  | n, a :: ps, x, h => by
    rw [rlab, List.mem_cons] at h
    rcases h with rfl | h
    · exact ⟨0, rfl, rfl⟩
    · obtain ⟨i, e1, e2⟩ := rlab_mem h
      exact ⟨i + 1, by simpa using e1, by rw [e2]; congr 1; omega⟩
theorem rlab_at : ∀ {n : Nat} {ps : List Addr} {i : Nat} {a : Addr}, ps[i]? = some a → (a, [n + i]) ∈ rlab n ps
  | n, a :: ps, 0, b, h => by
    simp at h; subst h
    rw [rlab]; exact List.mem_cons_self
  | n, a :: ps, i + 1, b, h => by
    rw [rlab]
    have e : n + (i + 1) = (n + 1) + i := by omega
    rw [e]
    exact List.mem_cons_of_mem _ (rlab_at (by simpa using h))
mutual
inductive OwnP (c : Cc) (w : Wm) (H : Hp) : List (Addr × List Nat) → V → OD → Prop
  | leaf {v : V} {d : D} : Is c w H v d → OwnP c w H [] v (.leaf d)
  | fl {p : Addr} {vs : List V} {ds : List D} : H p = some (.lst vs) → IsAll c w H vs ds → OwnP c w H [(p, [])] (.ref p) (.fl ds)
  | ll {p : Addr} {ps : List Addr} {dss : List (List D)} : H p = some (.lst (ps.map V.ref)) → RowsP c w H ps dss → OwnP c w H ((p, []) :: rlab 0 ps) (.ref p) (.ll dss)
  | oobj {p dx : Addr} {vs : List V} {ds : List D} {q : Nat} : H p = some (.ins (c.cl q) dx ((c.fn q).zip vs)) → vs.length ≤ (c.fn q).length → IsAll c w H vs ds → OwnP c w H [(p, [])] (.ref p) (.oobj q ds)
  | nl {p : Addr} {vs : List V} {os : List OD} {ls : List (Addr × List Nat)} : H p = some (.lst vs) → OwnPs c w H 0 ls vs os → OwnP c w H ((p, []) :: ls) (.ref p) (.nl os)
  | nt {p : Addr} {vs : List V} {os : List OD} {ls : List (Addr × List Nat)} : H p = some (.tup vs) → OwnPs c w H 0 ls vs os → OwnP c w H ((p, []) :: ls) (.ref p) (.nt os)
inductive OwnPs (c : Cc) (w : Wm) (H : Hp) : Nat → List (Addr × List Nat) → List V → List OD → Prop
  | nil {n : Nat} : OwnPs c w H n [] [] []
  | cons {n : Nat} {l ls : List (Addr × List Nat)} {v : V} {vs : List V} {o : OD} {os : List OD} : OwnP c w H l v o → OwnPs c w H (n + 1) ls vs os → OwnPs c w H n (l.map (pre n) ++ ls) (v :: vs) (o :: os)
end
theorem pre_fst {n : Nat} {l : List (Addr × List Nat)} : (l.map (pre n)).map (·.1) = l.map (·.1) := by
  rw [List.map_map]; rfl
mutual
theorem OwnP.has {w : Wm} {H : Hp} : ∀ {ls : List (Addr × List Nat)} {v : V} {o : OD}, OwnP c w H ls v o → ∀ a ∈ ls.map (·.1), ∃ o, H a = some o
  | _, _, _, .leaf _, a, ha => by cases ha
  | _, _, _, .fl h _, a, ha => by simp at ha; subst ha; exact ⟨_, h⟩
  | _, _, _, .oobj h _ _, a, ha => by simp at ha; subst ha; exact ⟨_, h⟩
  | _, _, _, .ll h r, a, ha => by
    rw [List.map_cons, rlab_fst] at ha
    rcases List.mem_cons.mp ha with rfl | ha
    · exact ⟨_, h⟩
    · exact r.has a ha
  | _, _, _, .nl h r, a, ha => by
    rcases List.mem_cons.mp ha with rfl | ha
    · exact ⟨_, h⟩
    · exact OwnPs.has r a ha
  | _, _, _, .nt h r, a, ha => by
    rcases List.mem_cons.mp ha with rfl | ha
    · exact ⟨_, h⟩
    · exact OwnPs.has r a ha
theorem OwnPs.has {w : Wm} {H : Hp} : ∀ {n : Nat} {ls : List (Addr × List Nat)} {vs : List V} {os : List OD}, OwnPs c w H n ls vs os → ∀ a ∈ ls.map (·.1), ∃ o, H a = some o
  | _, _, _, _, .nil, a, ha => by cases ha
  | _, _, _, _, .cons h r, a, ha => by
    rw [List.map_append, pre_fst, List.mem_append] at ha
    rcases ha with ha | ha
    · exact OwnP.has h a ha
    · exact OwnPs.has r a ha
end
mutual
theorem OwnP.stepW {w w' : Wm} {H H' : Hp} (st : StepN w H w' H') : ∀ {ls : List (Addr × List Nat)} {v : V} {o : OD}, (∀ a ∈ ls.map (·.1), ∀ o, H a = some o → H' a = some o) → OwnP c w H ls v o → OwnP c w' H' ls v o
  | _, _, _, hk, .leaf h => .leaf (h.stepN st)
  | _, _, _, hk, .fl h r => .fl (hk _ List.mem_cons_self _ h) (r.stepN st)
  | _, _, _, hk, .oobj h h2 r => .oobj (hk _ List.mem_cons_self _ h) h2 (r.stepN st)
  | _, _, _, hk, .ll h r => .ll (hk _ List.mem_cons_self _ h) (r.stepW st fun a ha => hk a (List.mem_cons_of_mem _ (by rw [rlab_fst]; exact ha)))
  | _, _, _, hk, .nl h r => .nl (hk _ List.mem_cons_self _ h) (OwnPs.stepW st (fun a ha => hk a (List.mem_cons_of_mem _ ha)) r)
  | _, _, _, hk, .nt h r => .nt (hk _ List.mem_cons_self _ h) (OwnPs.stepW st (fun a ha => hk a (List.mem_cons_of_mem _ ha)) r)
theorem OwnPs.stepW {w w' : Wm} {H H' : Hp} (st : StepN w H w' H') : ∀ {n : Nat} {ls : List (Addr × List Nat)} {vs : List V} {os : List OD}, (∀ a ∈ ls.map (·.1), ∀ o, H a = some o → H' a = some o) → OwnPs c w H n ls vs os → OwnPs c w' H' n ls vs os
  | _, _, _, _, hk, .nil => .nil
  | _, _, _, _, hk, .cons h r => .cons (OwnP.stepW st (fun a ha => hk a (by rw [List.map_append, pre_fst]; exact List.mem_append_left _ ha)) h) (OwnPs.stepW st (fun a ha => hk a (by rw [List.map_append]; exact List.mem_append_right _ ha)) r)
end
def PendOk (c : Cc) (w : Wm) (H : Hp) (w0 : Wm) (H0 : Hp) (as : List Addr) (v : V) : Slot → Prop
  | .val d => as = [] ∧ Is c w H v d
  | .own o => ∃ ls, as = ls.map (·.1) ∧ OwnP c w H ls v o ∧ as.Nodup ∧ ∀ a ∈ as, w a = .out ∧ Fresh w0 H0 a
  | _ => False
section
variable {w' w0 w1 : Wm} {H' H0 H1 : Hp} {v : V} {x : Slot} {as bs : List Addr}
theorem PendOk.stepW (st : StepN w H w' H') (hk : ∀ a ∈ as, ∀ o, H a = some o → w a = .out → H' a = some o ∧ w' a = .out) (h : PendOk c w H w0 H0 as v x) : PendOk c w' H' w0 H0 as v x := by
  cases x with
  | val d => exact ⟨h.1, h.2.stepN st⟩
  | own o =>
    obtain ⟨ls, rfl, h1, h2, h3⟩ := h
    refine ⟨ls, rfl, OwnP.stepW st (fun a ha o ho => (hk a ha o ho (h3 a ha).1).1) h1, h2, fun a ha => ⟨?_, (h3 a ha).2⟩⟩
    obtain ⟨o, ho⟩ := h1.has a ha
    exact (hk a ha o ho (h3 a ha).1).2
  | no => exact h.elim
  | ref => exact h.elim
  | pin => exact h.elim
theorem PendOk.step (st : Step w H w' H') (h : PendOk c w H w0 H0 as v x) : PendOk c w' H' w0 H0 as v x :=
  h.stepW st.n fun a ha o ho k => ⟨(st a o ho (.inr k)).1, (st a o ho (.inr k)).2.trans k⟩
theorem Fresh.from {p : Addr} (st : Step w0 H0 w1 H1) (f : Fresh w1 H1 p) : Fresh w0 H0 p := fun a o h k => f a o (st a o h k).1 (by rw [(st a o h k).2]; exact k)
theorem PendOk.from (st : Step w0 H0 w1 H1) (h : PendOk c w H w1 H1 as v x) : PendOk c w H w0 H0 as v x := by
  cases x with
  | val d => exact h
  | own o =>
    obtain ⟨ls, e, h1, h2, h3⟩ := h
    exact ⟨ls, e, h1, h2, fun a ha => ⟨(h3 a ha).1, (h3 a ha).2.from st⟩⟩
  | no => exact h.elim
  | ref => exact h.elim
  | pin => exact h.elim
theorem PendOk.own {p : Addr} (h : PendOk c w H w0 H0 as v x) (hp : p ∈ as) : ∃ o, H p = some o ∧ w p = .out ∧ Fresh w0 H0 p := by
  cases x with
  | val d => rw [h.1] at hp; cases hp
  | own o =>
    obtain ⟨ls, rfl, h1, h2, h3⟩ := h
    obtain ⟨o, ho⟩ := h1.has p hp
    exact ⟨o, ho, h3 p hp⟩
  | no => exact h.elim
  | ref => exact h.elim
  | pin => exact h.elim
end
/-- several ones: the new places are unlike -/
inductive Pends (c : Cc) (w : Wm) (H : Hp) (w0 : Wm) (H0 : Hp) : List Addr → List V → List Slot → Prop
  | nil : Pends c w H w0 H0 [] [] []
  | cons {v : V} {vs : List V} {x : Slot} {xs : List Slot} {as bs : List Addr} : PendOk c w H w0 H0 as v x → (∀ p ∈ as, p ∉ bs) → Pends c w H w0 H0 bs vs xs → Pends c w H w0 H0 (as ++ bs) (v :: vs) (x :: xs)
theorem Pends.fresh {w w0 : Wm} {H H0 : Hp} : ∀ {as : List Addr} {vs : List V} {xs : List Slot}, Pends c w H w0 H0 as vs xs → ∀ q ∈ as, Fresh w0 H0 q
  | _, _, _, .nil, q, h => nomatch h
  | _, _, _, .cons h _ r, q, hq => by
    rcases List.mem_append.mp hq with hq | hq
    · obtain ⟨_, _, _, f⟩ := h.own hq
      exact f
    · exact Pends.fresh r q hq
theorem Pends.from {w w0 w1 : Wm} {H H0 H1 : Hp} (st : Step w0 H0 w1 H1) : ∀ {as : List Addr} {vs : List V} {xs : List Slot}, Pends c w H w1 H1 as vs xs → Pends c w H w0 H0 as vs xs
  | _, _, _, .nil => .nil
  | _, _, _, .cons h d r => .cons (h.from st) d (Pends.from st r)
def tP (c : Cc) (m : M (List Slot)) : TA := fun σ H Q => ∃ w rs s xs s', Rel c w rs s σ H ∧ m s = some (xs, s') ∧ ∀ vs as H' w', Rel c w' rs s' σ H' → Pends c w' H' w H as vs xs → Step w H w' H' → Q vs H'
/-- one of these -/
def tO (c : Cc) (m : M Slot) : TE := fun σ H Q => ∃ w rs s x s', Rel c w rs s σ H ∧ m s = some (x, s') ∧ ∀ v as H' w', Rel c w' rs s' σ H' → PendOk c w' H' w H as v x → Step w H w' H' → Q v H'
theorem i_ov {m : M D} : ∀ σ H Q, tO c (bnd m fun d => ret (.val d)) σ H Q → tE c m σ H Q := fun σ H Q ⟨w, rs, s, d, s', R, e, k⟩ => by
  obtain ⟨d1, s1, e1, e⟩ := bnd_some.mp e
  cases ret_some.mp e
  exact ⟨w, rs, s, d1, _, R, e1, fun v1 H1 w1 R1 q1 st1 => k v1 [] H1 w1 R1 ⟨rfl, q1⟩ st1⟩
theorem i_oo {m : M (List D)} : ∀ σ H Q, tO c (bnd m fun ds => ret (.own (.fl ds))) σ H Q → tF c m σ H Q := fun σ H Q ⟨w, rs, s, d, s', R, e, k⟩ => by
  obtain ⟨d1, s1, e1, e⟩ := bnd_some.mp e
  cases ret_some.mp e
  exact ⟨w, rs, s, d1, _, R, e1, fun p vs H1 w1 R1 h1 h2 r f st1 => k _ [p] H1 w1 R1 ⟨[(p, [])], rfl, .fl h1 r, by simp, fun a ha => by rw [List.mem_singleton] at ha; subst ha; exact ⟨h2, f⟩⟩ st1⟩
theorem i_or {m : M (List (List D))} : ∀ σ H Q, tO c (bnd m fun ds => ret (.own (.ll ds))) σ H Q → tRw c m σ H Q := fun σ H Q ⟨w, rs, s, d, s', R, e, k⟩ => by
  obtain ⟨d1, s1, e1, e⟩ := bnd_some.mp e
  cases ret_some.mp e
  exact ⟨w, rs, s, d1, _, R, e1, fun p ps H1 w1 R1 h1 r nd f st1 => k _ (p :: ps) H1 w1 R1 ⟨(p, []) :: rlab 0 ps, by rw [List.map_cons, rlab_fst], .ll h1 r, nd, f⟩ st1⟩
/-- rows by their labels -/
theorem IsRows.pend {k : List Nat → Ow} {w w' : Wm} {H : Hp} (hs : StepN w H w' H) : ∀ {m : Nat} {vs : List V} {dss : List (List D)}, IsRows c w H k m vs dss → ∃ ps, vs = ps.map V.ref ∧ RowsP c w' H ps dss ∧ ∀ i a, ps[i]? = some a → w a = k [m + i]
  | _, _, _, .nil => ⟨[], rfl, .nil, fun i a h => by simp at h⟩
  | m, _, _, .cons (a := a) h1 h2 q r => by
    obtain ⟨ps, rfl, r', hl⟩ := IsRows.pend hs r
    refine ⟨a :: ps, rfl, .cons h2 (q.stepN hs) r', fun i b hb => ?_⟩
    cases i with
    | zero => simp at hb; subst hb; exact h1
    | succ i =>
      have := hl i b (by simpa using hb)
      rw [this]
      congr 2
      omega
/-- heads of paths -/
def Hds (n : Nat) (ls : List (Addr × List Nat)) : Prop := ∀ x ∈ ls, ∃ m q, x.2 = m :: q ∧ n ≤ m
theorem rlab_nd : ∀ (n : Nat) (ps : List Addr), ((rlab n ps).map (·.2)).Nodup ∧ Hds n (rlab n ps)
  | n, [] => ⟨.nil, fun x hx => by cases hx⟩
  | n, a :: ps => by
    obtain ⟨h1, h2⟩ := rlab_nd (n + 1) ps
    refine ⟨?_, fun x hx => ?_⟩
    · rw [rlab, List.map_cons, List.nodup_cons]
      refine ⟨fun z => ?_, h1⟩
      obtain ⟨x, hx, e⟩ := List.mem_map.mp z
      obtain ⟨m, q, e2, hm⟩ := h2 x hx
      rw [e] at e2
      injection e2 with e3 _
      omega
    · rw [rlab] at hx
      rcases List.mem_cons.mp hx with rfl | hx
      · exact ⟨n, [], rfl, Nat.le_refl _⟩
      · obtain ⟨m, q, e, hm⟩ := h2 x hx
        exact ⟨m, q, e, by omega⟩
theorem pre_nd {n : Nat} {l : List (Addr × List Nat)} (h : (l.map (·.2)).Nodup) : ((l.map (pre n)).map (·.2)).Nodup := by
  rw [List.map_map]
  have e : l.map ((·.2) ∘ pre n) = (l.map (·.2)).map (n :: ·) := by rw [List.map_map]; rfl
  rw [e]
  refine List.Pairwise.map _ (fun a b h z => h (by injection z)) h
mutual
theorem IsO.pend {w w' : Wm} {H : Hp} (hs : StepN w H w' H) : ∀ {k : List Nat → Ow} {v : V} {o : OD}, IsO c w H k v o → ∃ ls, OwnP c w' H ls v o ∧ (∀ x ∈ ls, w x.1 = k x.2) ∧ (ls.map (·.2)).Nodup
  | _, _, _, .leaf h => ⟨[], .leaf (h.stepN hs), (fun x hx => by cases hx), .nil⟩
  | _, _, _, .fl (a := a) h1 h2 r => ⟨[(a, [])], .fl h2 (r.stepN hs), (fun x hx => by rw [List.mem_singleton] at hx; subst hx; exact h1), by simp⟩
  | _, _, _, .ll (a := a) h1 h2 r => by
    obtain ⟨ps, rfl, r', hl⟩ := r.pend hs
    obtain ⟨n1, n2⟩ := rlab_nd 0 ps
    refine ⟨(a, []) :: rlab 0 ps, .ll h2 r', fun x hx => ?_, ?_⟩
    · rcases List.mem_cons.mp hx with rfl | hx
      · exact h1
      · obtain ⟨i, e1, e2⟩ := rlab_mem hx
        rw [e2]; exact hl i _ e1
    · rw [List.map_cons, List.nodup_cons]
      refine ⟨fun z => ?_, n1⟩
      obtain ⟨x, hx, e⟩ := List.mem_map.mp z
      obtain ⟨m, q, e2, _⟩ := n2 x hx
      rw [e] at e2; cases e2
  | _, _, _, .nl (a := a) h1 h2 r => by
    obtain ⟨ls, r1, r2, r3, r4⟩ := IsOs.pend hs r
    refine ⟨(a, []) :: ls, .nl h2 r1, fun x hx => ?_, ?_⟩
    · rcases List.mem_cons.mp hx with rfl | hx
      · exact h1
      · exact r2 x hx
    · rw [List.map_cons, List.nodup_cons]
      refine ⟨fun z => ?_, r3⟩
      obtain ⟨x, hx, e⟩ := List.mem_map.mp z
      obtain ⟨m, q, e2, _⟩ := r4 x hx
      rw [e] at e2; cases e2
  | _, _, _, .nt (a := a) h1 h2 r => by
    obtain ⟨ls, r1, r2, r3, r4⟩ := IsOs.pend hs r
    refine ⟨(a, []) :: ls, .nt h2 r1, fun x hx => ?_, ?_⟩
    · rcases List.mem_cons.mp hx with rfl | hx
      · exact h1
      · exact r2 x hx
    · rw [List.map_cons, List.nodup_cons]
      refine ⟨fun z => ?_, r3⟩
      obtain ⟨x, hx, e⟩ := List.mem_map.mp z
      obtain ⟨m, q, e2, _⟩ := r4 x hx
      rw [e] at e2; cases e2
  | _, _, _, .oobj (a := a) h1 h2 h3 r => ⟨[(a, [])], .oobj h2 h3 (r.stepN hs), (fun x hx => by rw [List.mem_singleton] at hx; subst hx; exact h1), by simp⟩
theorem IsOs.pend {w w' : Wm} {H : Hp} (hs : StepN w H w' H) : ∀ {k : List Nat → Ow} {n : Nat} {vs : List V} {os : List OD}, IsOs c w H k n vs os → ∃ ls, OwnPs c w' H n ls vs os ∧ (∀ x ∈ ls, w x.1 = k x.2) ∧ (ls.map (·.2)).Nodup ∧ Hds n ls
  | _, _, _, _, .nil => ⟨[], .nil, (fun x hx => by cases hx), .nil, (fun x hx => by cases hx)⟩
  | _, n, _, _, .cons h r => by
    obtain ⟨l, a1, a2, a3⟩ := IsO.pend hs h
    obtain ⟨ls, b1, b2, b3, b4⟩ := IsOs.pend hs r
    refine ⟨l.map (pre n) ++ ls, .cons a1 b1, fun x hx => ?_, ?_, fun x hx => ?_⟩
    · rcases List.mem_append.mp hx with hx | hx
      · obtain ⟨y, hy, rfl⟩ := List.mem_map.mp hx
        exact a2 y hy
      · exact b2 x hx
    · rw [List.map_append, List.nodup_append]
      refine ⟨pre_nd a3, b3, fun p hp q hq z => ?_⟩
      obtain ⟨x, hx, rfl⟩ := List.mem_map.mp hp
      obtain ⟨y, hy, rfl⟩ := List.mem_map.mp hx
      obtain ⟨u, hu, rfl⟩ := List.mem_map.mp hq
      obtain ⟨m, q', e2, hm⟩ := b4 u hu
      rw [← z] at e2
      have e3 : n :: y.2 = m :: q' := e2
      injection e3 with e4 _
      omega
    · rcases List.mem_append.mp hx with hx | hx
      · obtain ⟨y, hy, rfl⟩ := List.mem_map.mp hx
        exact ⟨n, y.2, rfl, Nat.le_refl _⟩
      · obtain ⟨m, q, e, hm⟩ := b4 x hx
        exact ⟨m, q, e, by omega⟩
end
theorem nodup_fst {ls : List (Addr × List Nat)} {k : List Nat → Ow} {w : Wm} (hk : ∀ p q, k p = k q → p = q) (hl : ∀ x ∈ ls, w x.1 = k x.2) (h : (ls.map (·.2)).Nodup) : (ls.map (·.1)).Nodup := by
  unfold List.Nodup at h ⊢
  rw [List.pairwise_map] at h ⊢
  refine h.imp_of_mem fun {x y} hx hy ne z => ne (hk _ _ ?_)
  rw [← hl x hx, ← hl y hy, z]
theorem OD.slot_eq {o : OD} {x : Slot} (h : o.slot = some x) : (∃ d, o = .leaf d ∧ x = .val d) ∨ x = .own o := by
  cases o <;> simp only [OD.slot] at h
  all_goals first | exact .inr (Option.some.inj h).symm | exact .inl ⟨_, rfl, (Option.some.inj h).symm⟩ | cases h
/-- a call that has made a list -/
def wbackC (w wx : Wm) : Wm := fun a => match wx a with | .out => w a | .slot _ _ => .no | .res _ => .out | x => x
theorem call_coreC {n f : Nat} {call : CallF} {w1 : Wm} {rs : List V} {s1 : St} {σ : L2.St} {H1 : Hp} {vs : List V} {sl : List Slot} {o : OD} {S' : List OD} {x : Slot} {Q : VK} {E : XK} (R1 : Rel c w1 rs s1 σ H1) (q1 : ArgsOk c w1 rs H1 vs sl) (hn : sl.length = n) (ec : call f sl s1.S = some (o, S')) (ez : o.slot = some x)
    (k : ∀ v as H2 w2, Rel c w2 rs { s1 with S := S' } σ H2 → PendOk c w2 H2 w1 H1 as v x → Step w1 H1 w2 H2 → Q v H2) : spD c n call f vs H1 Q E := by
  refine ⟨wcall w1, rs, s1.S, sl, o, S', hn, q1.stepN step_call.n, R1.cells, fun a i p z => ?_, ec, fun v H2 wx cs q st => ?_⟩
  · unfold wcall at z
    split at z <;> first | cases z | (rename_i h1 h2; exact h1 i p z)
  · obtain ⟨R2, st2⟩ := R1.callG (w' := wbackC w1 wx) st cs (fun a h => by unfold wbackC; rw [h]) (fun a h => by unfold wbackC; rw [h]) (fun a j p h => by unfold wbackC; rw [h])
    have sN : StepN wx H2 (wbackC w1 wx) H2 := fun a o h kk => ⟨h, by unfold wbackC; rw [kk]⟩
    have lab : ∀ a p, wx a = row p → wbackC w1 wx a = .out ∧ Fresh w1 H1 a := fun a p h => by
      refine ⟨by unfold wbackC; rw [h]; rfl, fun b ob hb kb zb => ?_⟩
      subst zb
      have := (st b ob hb (by unfold wcall; rcases kb with kb | kb <;> rw [kb] <;> simp)).2
      rw [h] at this
      unfold wcall at this
      rcases kb with kb | kb <;> rw [kb] at this <;> cases this
    have hrow : ∀ p q, row p = row q → p = q := fun p q z => by unfold row at z; injection z
    rcases OD.slot_eq ez with ⟨d, rfl, rfl⟩ | rfl
    · cases q with
      | leaf q => exact k _ [] H2 _ R2 ⟨rfl, q.stepN sN⟩ st2
    obtain ⟨ls, p1, p2, p3⟩ := q.pend sN
    have nd := nodup_fst hrow p2 p3
    refine k _ (ls.map (·.1)) H2 _ R2 ⟨ls, rfl, p1, nd, fun b hb => ?_⟩ st2
    obtain ⟨x, hx, rfl⟩ := List.mem_map.mp hb
    exact lab _ _ (p2 x hx)
theorem i_callC {n f : Nat} {call : CallF} {m : M (List Slot)} {E : XK} {Γ : Env} (hΓ : Γ.call = call) (hn : ∀ s sl s', m s = some (sl, s') → sl.length = n) :
    ∀ σ H Q, tO c (bnd m fun sl => bnd (doCall Γ f sl) fun o => ofO o.slot) σ H Q → tCall (spD c n call f) [] E (tAs c m) σ H Q := fun σ H Q ⟨w, rs, s, x, s', R, e, k⟩ => by
  subst hΓ
  obtain ⟨sl, s1, e1, e⟩ := bnd_some.mp e
  obtain ⟨o, s2, e2, e⟩ := bnd_some.mp e
  obtain ⟨z, ez, ez'⟩ := ofO_some.mp e
  injection ez' with z1 z2; subst z1 z2
  unfold doCall at e2
  split at e2
  · rename_i o' S' ec
    cases e2
    refine ⟨w, rs, s, sl, s1, R, e1, fun vs H1 w1 R1 q1 st1 => ?_⟩
    dsimp only
    rw [List.append_nil]
    exact call_coreC R1 q1 (hn _ _ _ e1) ec ez fun v as H2 w2 R2 q st => k v as H2 w2 R2 (q.from st1) (st1.trans st)
  · cases e2
theorem i_callCK {n nk f : Nat} {Γ : Env} {π : List Nat} {ms : M (List D)} (hnk : ∀ s ds s', ms s = some (ds, s') → ds.length = nk) :
    ∀ σ H Q, tO c (bnd ms fun ds => if (perm π ds).length = n then bnd (doCall Γ f ((perm π ds).map .val)) fun o => ofO o.slot else fail) σ H Q → tCallN 0 nk (spD c n Γ.call f) (fun _ zs => perm π zs) noX tNil (tL c ms) σ H Q := fun σ H Q ⟨w, rs, s, x, s', R, e, kq⟩ => by
  obtain ⟨ds, s1, e1, e2⟩ := bnd_some.mp e
  refine ⟨w, rs, s, ds, s1, R, e1, fun vs H1 w1 R1 q1 st1 => ⟨rfl, by rw [q1.length]; exact hnk _ _ _ e1, ?_⟩⟩
  split at e2
  · rename_i hn
    obtain ⟨o, s2, e3, e4⟩ := bnd_some.mp e2
    obtain ⟨S', ec, rfl⟩ := doCall_leaf e3
    obtain ⟨z, ez, ez'⟩ := ofO_some.mp e4
    injection ez' with z1 z2; subst z1 z2
    exact call_coreC R1 (q1.perm π).args (by rw [List.length_map]; exact hn) ec ez fun v as H2 w2 R2 q st => kq v as H2 w2 R2 (q.from st1) (st1.trans st)
  · exact (fail_some.mp e2).elim
def okC (tb : Tb) (N : List Str) (sc : Scope) : E → Bool
  | .call f x _ as _ => (match tb.funs[f]? with | some fi => fi.pl && (decide (fi.x = x) && decide (fi.ps.length = as.len)) | none => false) && glb sc x && !(x == ("__debug__" : Str)) && okAs tb N sc as
  | .callK f x _ ks n π _ => okFn tb f x n && glb sc x && !(x == ("__debug__" : Str)) && decide ((f, ks.nms, π) ∈ tb.kws) && okKs tb N sc ks
  | _ => false
theorem sC (e : E) {X : Cx} (G : Gd X c Γ tb n) (ok : okC tb X.N X.env.scope e = true) : PE X e.py (tO c (denC Γ e)) := by
  unfold okC at ok
  split at ok
  · rename_i f x p as q
    simp only [Bool.and_eq_true, Bool.not_eq_true'] at ok
    obtain ⟨⟨⟨h1, h2⟩, h3⟩, h4⟩ := ok
    cases ef : tb.funs[f]? with
    | none => rw [ef] at h1; cases h1
    | some fi =>
      rw [ef] at h1
      simp only [Bool.and_eq_true, decide_eq_true_eq] at h1
      obtain ⟨hpl, h1⟩ := h1
      obtain ⟨fa, fd, g1, g2, g3, g4, _⟩ := G.fns f fi ef hpl
      rw [h1.1] at g1
      have hroom : Room (2 * n) X.A := G.room.mono (by omega)
      have hl : ∀ s sl s', denAs Γ as s = some (sl, s') → sl.length = fi.ps.length := fun s sl s' e => by rw [As.lenOk e, h1.2]
      have hA := sAs as G h4
      rw [E.py, denC]
      cases as with
      | nil =>
        rw [As.py] at hA ⊢
        refine pimp (pe_call0 (E := fun _ _ _ => False) g4 hroom (glb_ok h2) g1 g2 g3 .nil (fun _ _ _ _ _ _ _ z => z.elim) h3) fun σ H Q q => ?_
        have := i_callC (E := fun _ _ _ => False) rfl hl σ H Q q
        obtain ⟨w, rs, s, sl, s', R, e, k⟩ := this
        rw [denAs] at e
        cases ret_some.mp e
        exact k [] H w R .nil (Step.refl _ _)
      | val e as =>
        rw [As.py] at hA ⊢
        exact pimp (pe_call (E := fun _ _ _ => False) g4 hroom (glb_ok h2) g1 g2 g3 .nil (fun _ _ _ _ _ _ _ z => z.elim) hA h3 (e.star _ _) (As.noStar as)) (i_callC rfl hl)
      | share i y p' as =>
        rw [As.py] at hA ⊢
        exact pimp (pe_call (E := fun _ _ _ => False) g4 hroom (glb_ok h2) g1 g2 g3 .nil (fun _ _ _ _ _ _ _ z => z.elim) hA h3 rfl (As.noStar as)) (i_callC rfl hl)
  · rename_i f x p ks m π q
    simp only [Bool.and_eq_true, decide_eq_true_eq, Bool.not_eq_true'] at ok
    obtain ⟨⟨⟨⟨o1, o2⟩, o3⟩, o4⟩, o5⟩ := ok
    rw [E.py, denC]
    obtain ⟨fi, f1, f2, f3, f4⟩ := okFn_ok o1
    obtain ⟨fa, fd, a1, a2, a3, a4, a5⟩ := G.fns f fi f1 f2
    rw [f3] at a1
    have hroom : Room (2 * n) X.A := G.room.mono (by omega)
    have key := pe_callK0 (p := p) (pos := q) a4 hroom (glb_ok o2) a1 a2 (a5 _ _ o4) (sKs ks G o5) (ks.all _ _) (ks.names _ _) o3 (ks.none _ _)
    rw [f4] at key
    exact pimp key (i_callCK fun s ds s' e => ks.lenOk e)
  · cases ok
/-! ### a name gives away what it owns; displays -/
def whold (w : Wm) (i : Nat) : Wm := fun a => match w a with | .slot j p => if j = i then .out else .slot j p | x => x
theorem whold_own {i : Nat} {a : Addr} {p : List Nat} (h : w a = sow i p) : whold w i a = .out := by
  unfold whold; rw [h]; simp [sow]
theorem whold_ne {i : Nat} {a : Addr} (h : ∀ p, w a ≠ .slot i p) : whold w i a = w a := by
  unfold whold
  split
  · rename_i j p e
    rw [if_neg (fun z => h p (by rw [e, z])), e]
  · rfl
theorem i_mv {i : Nat} : ∀ σ H Q, tO c (moveM i) σ H Q → tVar i σ H Q := fun σ H Q ⟨w, rs, s, x, s', R, e, k⟩ => by
  unfold moveM at e
  split at e
  · rename_i o eo
    cases e
    obtain ⟨y, ey, v, rfl, q⟩ := R.at eo
    refine ⟨v, ey, ?_⟩
    have sN : StepN w H (whold w i) H := fun a o h kk => ⟨h, by rw [whold_ne (fun p z => by rw [kk] at z; cases z)]; exact kk⟩
    have st : Step w H (whold w i) H := fun a o h kk => ⟨h, whold_ne fun p z => by rw [z] at kk; rcases kk with z | z <;> cases z⟩
    obtain ⟨ls, p1, p2, p3⟩ := q.pend sN
    have nd := nodup_fst (k := sow i) (fun p q z => by unfold sow at z; injection z) p2 p3
    have R' : Rel c (whold w i) rs { s with L := s.L.set i .no } σ H := by
      refine ⟨by simpa using R.len, fun j y x e1 e2 => ?_, fun j o' e1 => ?_⟩
      · by_cases hj : j = i
        · subst hj
          simp only [List.getElem?_set_self (List.getElem?_eq_some_iff.mp eo).1] at e1
          cases e1
          trivial
        · simp only [List.getElem?_set_ne (Ne.symm hj)] at e1
          have z := R.sl j y x e1 e2
          cases y with
          | no => trivial
          | val d => obtain ⟨v, e, q⟩ := z; exact ⟨v, e, q.stepN sN⟩
          | own o =>
            obtain ⟨v, e, q⟩ := z
            exact ⟨v, e, IsO.keepN sN (fun a o p h1 h2 => ⟨h1, whold_ne fun p' z => by rw [h2] at z; unfold sow at z; injection z with z _; exact hj z⟩) q⟩
          | ref q => exact z
          | pin d k => obtain ⟨v, e, e', q⟩ := z; exact ⟨v, e, e', q.stepN sN⟩
      · obtain ⟨v, e2, q⟩ := R.st j o' e1
        exact ⟨v, e2, IsO.keepN sN (fun a o p h1 h2 => ⟨h1, whold_ne fun p' z => by rw [h2] at z; unfold cow at z; cases z⟩) q⟩
    refine k v (ls.map (·.1)) H _ R' ⟨ls, rfl, p1, nd, fun a ha => ?_⟩ st
    obtain ⟨x, hx, rfl⟩ := List.mem_map.mp ha
    refine ⟨whold_own (p2 x hx), fun b ob hb kb z => ?_⟩
    rw [z, p2 x hx] at kb
    rcases kb with z | z <;> cases z
  · rename_i d ed
    cases e
    obtain ⟨v, hv, q⟩ := R.val ed
    exact ⟨v, hv, k v [] H w R ⟨rfl, q⟩ (Step.refl _ _)⟩
  · cases e
theorem Pends.owns {w w0 : Wm} {H H0 : Hp} : ∀ {as : List Addr} {vs : List V} {xs : List Slot} {os : List OD} (n : Nat), Pends c w H w0 H0 as vs xs → slotsO xs = some os →
    ∃ ls, as = ls.map (·.1) ∧ OwnPs c w H n ls vs os ∧ as.Nodup ∧ (∀ a ∈ as, w a = .out ∧ Fresh w0 H0 a) ∧ vs.length = os.length
  | _, _, _, os, n, .nil, e => by
    cases e
    exact ⟨[], rfl, .nil, .nil, (fun a ha => by cases ha), rfl⟩
  | _, _, _, os, n, .cons (v := v) (xs := xs) (x := x) (as := as) (bs := bs) h d r, e => by
    have key : ∃ o os', os = o :: os' ∧ slotsO xs = some os' ∧ ∃ l, as = l.map (·.1) ∧ OwnP c w H l v o ∧ as.Nodup ∧ ∀ a ∈ as, w a = .out ∧ Fresh w0 H0 a := by
      cases x with
      | val dd =>
        rw [slotsO, Option.map_eq_some_iff] at e
        obtain ⟨os', e1, rfl⟩ := e
        exact ⟨_, os', rfl, e1, [], h.1, .leaf h.2, by rw [h.1]; exact .nil, fun a ha => by rw [h.1] at ha; cases ha⟩
      | own o =>
        rw [slotsO, Option.map_eq_some_iff] at e
        obtain ⟨os', e1, rfl⟩ := e
        obtain ⟨l, q1, q2, q3, q4⟩ := h
        exact ⟨_, os', rfl, e1, l, q1, q2, q3, q4⟩
      | no => exact h.elim
      | ref => exact h.elim
      | pin => exact h.elim
    obtain ⟨o, os', rfl, e1, l, q1, q2, q3, q4⟩ := key
    obtain ⟨ls, t1, t2, t3, t4, t5⟩ := Pends.owns (n + 1) r e1
    refine ⟨l.map (pre n) ++ ls, by rw [List.map_append, pre_fst, q1, t1], .cons q2 t2, ?_, fun a ha => ?_, by rw [List.length_cons, List.length_cons, t5]⟩
    · rw [List.nodup_append]
      exact ⟨q3, t3, fun a ha b hb z => d a ha (z ▸ hb)⟩
    · rcases List.mem_append.mp ha with ha | ha
      · exact q4 a ha
      · exact t4 a ha
theorem i_dis {m : M (List Slot)} {f : List OD → OD} {g : List V → HO} (hf : ∀ {w : Wm} {H : Hp} {p : Addr} {vs : List V} {os : List OD} {ls : List (Addr × List Nat)}, H p = some (g vs) → OwnPs c w H 0 ls vs os → OwnP c w H ((p, []) :: ls) (.ref p) (f os)) :
    ∀ σ H Q, tO c (disM f m) σ H Q → tP c m σ H fun vs H1 => vs.length ≤ sizeLine ∧ ∀ p, H1 p = none → Q (.ref p) (upd H1 p (g vs)) := fun σ H Q ⟨w, rs, s, x, s', R, e, k⟩ => by
  unfold disM at e
  obtain ⟨xs, s1, e1, e⟩ := bnd_some.mp e
  cases eo : slotsO xs with
  | some os =>
    simp only [eo] at e
    split at e
    · rename_i hz
      cases ret_some.mp e
      refine ⟨w, rs, s, xs, _, R, e1, fun vs as H1 w1 R1 ps st1 => ?_⟩
      obtain ⟨ls, t1, t2, t3, t4, t5⟩ := ps.owns 0 eo
      subst t1
      refine ⟨by rw [t5]; exact hz, fun p hp => ?_⟩
      have sm : Same2 w1 H1 (wout w1 p) (upd H1 p (g vs)) := Same2.wout hp
      have np : p ∉ ls.map (·.1) := fun z => by
        obtain ⟨o, ho⟩ := t2.has p z
        rw [hp] at ho; cases ho
      refine k _ (p :: ls.map (·.1)) _ _ (R1.ext sm) ⟨(p, []) :: ls, rfl, hf upd_same (OwnPs.stepW sm.step.n (fun a ha o ho => (sm a o ho).1) t2), List.nodup_cons.mpr ⟨np, t3⟩, fun a ha => ?_⟩ (st1.trans sm.step)
      rcases List.mem_cons.mp ha with rfl | ha
      · exact ⟨wout_same, fresh_of st1 hp⟩
      · obtain ⟨o, ho⟩ := t2.has a ha
        exact ⟨(sm a o ho).2.trans (t4 a ha).1, (t4 a ha).2⟩
    · exact (fail_some.mp e).elim
  | none =>
    simp only [eo] at e
    exact (fail_some.mp e).elim
theorem i_oife {m : M D} {ma mb : M Slot} : ∀ σ H Q, tO c (bnd m fun x => bnd (ofO x.tr) fun t => if t then ma else mb) σ H Q → tIf (tBo c (trM m)) (tO c ma) (tO c mb) σ H Q := fun σ H Q ⟨w, rs, s, d, s', R, e, k⟩ => by
  obtain ⟨d1, s1, e1, e5⟩ := bnd_some.mp e
  obtain ⟨b, s2, e2, e6⟩ := bnd_some.mp e5
  refine ⟨w, rs, s, b, s2, R, bnd_some.mpr ⟨d1, s1, e1, e2⟩, fun H1 w1 R1 st1 => ?_⟩
  split at e6
  · rename_i hb
    rw [if_pos hb]
    exact ⟨w1, rs, s2, d, s', R1, e6, fun v as H' w' R' q st => k v as H' w' R' (q.from st1) (st1.trans st)⟩
  · rename_i hb
    rw [if_neg hb]
    exact ⟨w1, rs, s2, d, s', R1, e6, fun v as H' w' R' q st => k v as H' w' R' (q.from st1) (st1.trans st)⟩
mutual
def okOE (tb : Tb) (N : List Str) (sc : Scope) : OE → Bool
  | .v e => okE tb N sc e
  | .o e => okF tb N sc e
  | .oo e => okR tb N sc e
  | .oc e => okC tb N sc e
  | .mv i x _ => okN N sc i x
  | .dl es _ => okOEs tb N sc es
  | .dt es _ _ => okOEs tb N sc es
  | .ife t a b _ => okE tb N sc t && t.noIfe && okOE tb N sc a && okOE tb N sc b
def okOEs (tb : Tb) (N : List Str) (sc : Scope) : List OE → Bool
  | [] => true
  | e :: es => okOE tb N sc e && okOEs tb N sc es
end
theorem i_pcons {m : M Slot} {ms : M (List Slot)} : ∀ σ H Q, tP c (bnd m fun x => bnd ms fun xs => ret (x :: xs)) σ H Q → tCons (tO c m) (tP c ms) σ H Q := fun σ H Q ⟨w, rs, s, d, s', R, e, k⟩ => by
  obtain ⟨x, s1, e1, e⟩ := bnd_some.mp e
  obtain ⟨xs, s2, e2, e⟩ := bnd_some.mp e
  cases ret_some.mp e
  refine ⟨w, rs, s, x, s1, R, e1, fun v1 as1 H1 w1 R1 q1 st1 => ?_⟩
  refine ⟨w1, rs, s1, xs, _, R1, e2, fun v2 as2 H2 w2 R2 q2 st2 => ?_⟩
  refine k _ (as1 ++ as2) H2 w2 R2 (.cons (q1.step st2) (fun p hp hq => ?_) (q2.from st1)) (st1.trans st2)
  obtain ⟨us, h1, h2, f⟩ := q1.own hp
  exact q2.fresh p hq p _ h1 (.inr h2) rfl
mutual
theorem sOE : ∀ (e : OE) {X : Cx}, Gd X c Γ tb n → okOE tb X.N X.env.scope e = true → PE X e.e.py (tO c (denOE Γ e))
  | .v e, X, G, ok => by rw [denOE, OE.e]; rw [okOE] at ok; exact pimp (sE e G ok).1 i_ov
  | .o e, X, G, ok => by rw [denOE, OE.e]; rw [okOE] at ok; exact pimp (sF e G ok) i_oo
  | .oo e, X, G, ok => by rw [denOE, OE.e]; rw [okOE] at ok; exact pimp (sR e G ok) i_or
  | .oc e, X, G, ok => by rw [denOE, OE.e]; rw [okOE] at ok; exact sC e G ok
  | .mv i x p, X, G, ok => by rw [denOE, OE.e, E.py]; rw [okOE] at ok; exact pimp (name_ok ok) i_mv
  | .dl es p, X, G, ok => by
    rw [denOE, OE.e, E.py]
    rw [okOE] at ok
    exact pimp (pe_lst (sPes es G ok)) (i_dis (g := .lst) OwnP.nl)
  | .dt es k p, X, G, ok => by
    rw [denOE, OE.e, E.py]
    rw [okOE] at ok
    exact pimp (pe_tup (sPes es G ok)) (i_dis (g := .tup) OwnP.nt)
  | .ife t a b p, X, G, ok => by
    rw [denOE, OE.e, E.py]
    rw [okOE] at ok
    simp only [Bool.and_eq_true] at ok
    exact pimp (pe_ifExp ((sE t G ok.1.1.1).2 ok.1.1.2) (sOE a G ok.1.2) (sOE b G ok.2)) i_oife
theorem sPes : ∀ (es : List OE) {X : Cx}, Gd X c Γ tb n → okOEs tb X.N X.env.scope es = true → PA X (OE.es es).py (tP c (denOEs Γ es))
  | [], X, G, ok => by
    rw [denOEs, OE.es, Es.py]
    exact pimpA pa_nil fun σ H Q ⟨w, rs, s, d, s', R, e, k⟩ => by
      cases ret_some.mp e
      exact k [] [] H w R .nil (Step.refl _ _)
  | e :: es, X, G, ok => by
    rw [okOEs, Bool.and_eq_true] at ok
    rw [denOEs, OE.es, Es.py]
    exact pimpA (pa_cons (sOE e G ok.1) (sPes es G ok.2) (e.e.star _ _)) i_pcons
end
theorem sPs : ∀ (es : List OE) {X : Cx}, Gd X c Γ tb n → (es.all fun e => okOE tb X.N X.env.scope e) = true → PA X (es.map fun e => e.e.py) (tP c (denOEs Γ es))
  | [], X, G, ok => by
    rw [denOEs]
    exact pimpA pa_nil fun σ H Q ⟨w, rs, s, d, s', R, e, k⟩ => by
      cases ret_some.mp e
      exact k [] [] H w R .nil (Step.refl _ _)
  | e :: es, X, G, ok => by
    rw [List.all_cons, Bool.and_eq_true] at ok
    rw [List.map_cons, denOEs]
    exact pimpA (pa_cons (sOE e G ok.1) (sPs es G ok.2) (e.e.star _ _)) i_pcons
/-! ### places are labelled -/
def wown (w : Wm) (k : List Nat → Ow) (ls : List (Addr × List Nat)) : Wm := fun a => match ls.find? (fun x => x.1 == a) with
  | some x => k x.2
  | none => w a
theorem wown_ne {w : Wm} {k : List Nat → Ow} {ls : List (Addr × List Nat)} {a : Addr} (h : a ∉ ls.map (·.1)) : wown w k ls a = w a := by
  unfold wown
  have : ls.find? (fun x => x.1 == a) = none := by
    rw [List.find?_eq_none]
    intro x hx z
    exact h (List.mem_map.mpr ⟨x, hx, by simpa using z⟩)
  rw [this]
theorem wown_at {w : Wm} {k : List Nat → Ow} : ∀ {ls : List (Addr × List Nat)}, (ls.map (·.1)).Nodup → ∀ x ∈ ls, wown w k ls x.1 = k x.2
  | y :: ls, nd, x, hx => by
    rw [List.map_cons, List.nodup_cons] at nd
    unfold wown
    rw [List.find?_cons]
    by_cases e : y.1 = x.1
    · have e' : (y.1 == x.1) = true := by simpa using e
      rw [e']
      rcases List.mem_cons.mp hx with rfl | hx
      · rfl
      · exact absurd (List.mem_map.mpr ⟨x, hx, e.symm⟩) nd.1
    · have e' : (y.1 == x.1) = false := by simpa using e
      rw [e']
      rcases List.mem_cons.mp hx with rfl | hx
      · exact absurd rfl e
      · exact wown_at nd.2 x hx
theorem RowsP.lab {w w' : Wm} {H : Hp} {k : List Nat → Ow} (sN : StepN w H w' H) : ∀ {m : Nat} {ps : List Addr} {dss : List (List D)}, (∀ i a, ps[i]? = some a → w' a = k [m + i]) → RowsP c w H ps dss → IsRows c w' H k m (ps.map V.ref) dss
  | _, _, _, _, .nil => .nil
  | m, _, _, hl, .cons h q r => .cons (hl 0 _ rfl) h (q.stepN sN) (RowsP.lab sN (fun i a e => by rw [hl (i + 1) a (by simpa using e)]; congr 2; omega) r)
mutual
theorem OwnP.labK {w w' : Wm} {H : Hp} (sN : StepN w H w' H) : ∀ {k : List Nat → Ow} {ls : List (Addr × List Nat)} {v : V} {o : OD}, (∀ x ∈ ls, w' x.1 = k x.2) → OwnP c w H ls v o → IsO c w' H k v o
  | _, _, _, _, hl, .leaf h => .leaf (h.stepN sN)
  | _, _, _, _, hl, .fl h r => .fl (hl _ List.mem_cons_self) h (r.stepN sN)
  | _, _, _, _, hl, .oobj h h2 r => .oobj (hl _ List.mem_cons_self) h h2 (r.stepN sN)
  | _, _, _, _, hl, .ll h r => .ll (hl _ List.mem_cons_self) h (r.lab sN fun i a e => hl (a, [0 + i]) (List.mem_cons_of_mem _ (rlab_at e)))
  | _, _, _, _, hl, .nl h r => .nl (hl _ List.mem_cons_self) h (OwnPs.labK sN (fun x hx => hl x (List.mem_cons_of_mem _ hx)) r)
  | _, _, _, _, hl, .nt h r => .nt (hl _ List.mem_cons_self) h (OwnPs.labK sN (fun x hx => hl x (List.mem_cons_of_mem _ hx)) r)
theorem OwnPs.labK {w w' : Wm} {H : Hp} (sN : StepN w H w' H) : ∀ {k : List Nat → Ow} {n : Nat} {ls : List (Addr × List Nat)} {vs : List V} {os : List OD}, (∀ x ∈ ls, w' x.1 = k x.2) → OwnPs c w H n ls vs os → IsOs c w' H k n vs os
  | _, _, _, _, _, hl, .nil => .nil
  | _, n, _, _, _, hl, .cons h r => .cons (OwnP.labK sN (fun x hx => hl (pre n x) (List.mem_append_left _ (List.mem_map.mpr ⟨x, hx, rfl⟩))) h) (OwnPs.labK sN (fun x hx => hl x (List.mem_append_right _ hx)) r)
end
theorem OwnP.lab {w : Wm} {H : Hp} {k : List Nat → Ow} {ls : List (Addr × List Nat)} {v : V} {o : OD} (sN : StepN w H (wown w k ls) H) (nd : (ls.map (·.1)).Nodup) (h : OwnP c w H ls v o) : IsO c (wown w k ls) H k v o := OwnP.labK sN (wown_at nd) h
/-- what is labelled anew was another's -/
theorem wown_out {w : Wm} {k : List Nat → Ow} {ls : List (Addr × List Nat)} (ho : ∀ a ∈ ls.map (·.1), w a = .out) : ∀ a, w a ≠ .out → wown w k ls a = w a := fun a h => wown_ne fun z => h (ho a z)
theorem wown_n {w : Wm} {k : List Nat → Ow} {ls : List (Addr × List Nat)} {H : Hp} (ho : ∀ a ∈ ls.map (·.1), w a = .out) : StepN w H (wown w k ls) H := fun a o h kk => ⟨h, by rw [wown_out ho a (by rw [kk]; intro z; cases z)]; exact kk⟩
theorem Rel.wown {k : List Nat → Ow} {ls : List (Addr × List Nat)} (R : Rel c w rs s σ H) (ho : ∀ a ∈ ls.map (·.1), w a = .out) : Rel c (Dm.wown w k ls) rs s σ H :=
  R.keepN (wown_n ho) (fun a o i q h kk => ⟨h, wown_out ho a (by rw [kk]; intro z; cases z)⟩) (fun a o i q h kk => ⟨h, wown_out ho a (by rw [kk]; intro z; cases z)⟩)
/-- a name is stored -/
theorem Rel.setPend {i : Nat} {v : V} {x : Slot} {w0 : Wm} {H0 : Hp} {s' : St} {u : Unit} {as : List Addr} (R : Rel c w rs s σ H) (h : PendOk c w H w0 H0 as v x) (e : setSlot i x s = some (u, s')) :
    ∃ w', Rel c w' rs s' (σ.set i (some v)) H ∧ (∀ a, w' a = w a ∨ (a ∈ as ∧ w a = .out ∧ Fresh w0 H0 a)) := by
  unfold setSlot at e
  split at e
  · rename_i hi
    cases e
    cases x with
    | val d => exact ⟨w, R.set h.2, fun a => .inl rfl⟩
    | own o =>
      obtain ⟨ls, rfl, h1, nd, h3⟩ := h
      have ho : ∀ a ∈ ls.map (·.1), w a = .out := fun a ha => (h3 a ha).1
      have q := h1.lab (k := sow i) (wown_n ho) nd
      have R' := R.wown (k := sow i) ho
      refine ⟨Dm.wown w (sow i) ls, ⟨by simpa using R.len, fun j y x e1 e2 => ?_, R'.st⟩, fun a => ?_⟩
      · by_cases hj : j = i
        · subst hj
          simp only [List.getElem?_set_self hi] at e1
          rw [List.getElem?_set_self (by rw [← R.len]; exact hi)] at e2
          cases e1; cases e2
          exact ⟨_, rfl, q⟩
        · simp only [List.getElem?_set_ne (Ne.symm hj)] at e1
          rw [List.getElem?_set_ne (Ne.symm hj)] at e2
          exact R'.sl j y x e1 e2
      · by_cases ha : a ∈ ls.map (·.1)
        · exact .inr ⟨ha, h3 a ha⟩
        · exact .inl (wown_ne ha)
    | no => exact h.elim
    | ref => exact h.elim
    | pin => exact h.elim
  · cases e
def storeAll (σ : L2.St) : List Nm → List V → L2.St
  | n :: ns, v :: vs => storeAll (σ.set n.i (some v)) ns vs
  | _, _ => σ
theorem Rel.setPends : ∀ {ns : List Nm} {vs : List V} {xs : List Slot} {as : List Addr} {w : Wm} {s s' : St} {σ : L2.St} {w0 : Wm} {H0 : Hp} {u : Unit}, Rel c w rs s σ H → Pends c w H w0 H0 as vs xs → Step w0 H0 w H → setSlots ns xs s = some (u, s') →
    ns.length = vs.length ∧ ∃ w', Rel c w' rs s' (storeAll σ ns vs) H ∧ Step w0 H0 w' H
  | [], [], [], as, w, s, s', σ, w0, H0, u, R, _, st, e => by
    rw [setSlots] at e
    cases ret_some.mp e
    exact ⟨rfl, w, R, st⟩
  | n :: ns, v :: vs, x :: xs, _, w, s, s', σ, w0, H0, u, R, .cons (as := as) (bs := bs) h d r, st, e => by
    rw [setSlots] at e
    obtain ⟨u1, s1, e1, e2⟩ := bnd_some.mp e
    obtain ⟨w1, R1, hw⟩ := R.setPend h e1
    have hst : Step w0 H0 w1 H := fun a o h k => by
      obtain ⟨z1, z2⟩ := st a o h k
      refine ⟨z1, ?_⟩
      rcases hw a with q | ⟨_, _, f⟩
      · rw [q]; exact z2
      · exact absurd rfl (f a o h k)
    have sN : StepN w H w1 H := fun a o h k => by
      refine ⟨h, ?_⟩
      rcases hw a with q | ⟨_, q, _⟩
      · rw [q]; exact k
      · rw [k] at q; cases q
    have r1 : Pends c w1 H w0 H0 bs vs xs := by
      have gen : ∀ {bs' : List Addr} {vs' : List V} {xs' : List Slot}, (∀ p ∈ as, p ∉ bs') → Pends c w H w0 H0 bs' vs' xs' → Pends c w1 H w0 H0 bs' vs' xs' := by
        intro bs' vs' xs' dd rr
        induction rr with
        | nil => exact .nil
        | cons h' d' r' ih =>
          rename_i v' vs' x' xs' cs' ds'
          refine .cons (h'.stepW sN fun a ha o ho k => ⟨ho, ?_⟩) d' (ih fun p hp hq => dd p hp (List.mem_append.mpr (.inr hq)))
          rcases hw a with q | ⟨hv, _, _⟩
          · rw [q]; exact k
          · exact absurd (List.mem_append.mpr (.inl ha)) (dd a hv)
      exact gen d r
    obtain ⟨hl, w', R', st'⟩ := Rel.setPends R1 r1 hst e2
    exact ⟨by rw [List.length_cons, List.length_cons, hl], w', R', st'⟩
  | [], _ :: _, _ :: _, _, _, _, _, _, _, _, _, _, _, _, e => by simp [setSlots, fail] at e
  | _ :: _, [], [], _, _, _, _, _, _, _, _, _, _, _, e => by simp [setSlots, fail] at e
end
end Dm

/-! The D machine: assignments as statements. -/
namespace Dm
open PySem L2 PyProof.Rows
def blkKind (sc : Scope) : ScopeKind := if sc.kind.isAnnotationScope then .function else sc.kind
/-- whether a, b = x, y is stored from the right -/
def swS (sc : Scope) (ts vs : List Expr) : Option (Option (List Str)) :=
  if (!(ts.length == 2 || ts.length == 3) || vs.length != ts.length || blkKind sc != .function) = true then some none
  else if (vs.any fun | .Starred .. => true | _ => false) = true then some none
  else
    let line := (ts.head?.map (·.pos.line)).getD 0
    let names := ts.filterMap fun
      | .Name id pos => if (sc.names.lookup id == some .local && pos.line == line) = true then some id else none
      | _ => none
    if (names.length != ts.length || names.eraseDups.length != names.length) = true then some none
    else if (vs.all (foldedForSure 8)) = true then some none
    else if (vs.all (constantsAlone 8)) = true then none
    else some (some names)
theorem sw_ok {env : PySem.Env} {ts vs : List Expr} {k k' : Nat} {p p' : Pos} {r : Option (List Str)} (h : swS env.scope ts vs = some r) : swappedStores [.Tuple ts k p] (.Tuple vs k' p') env = pure r := by
  unfold swS at h
  unfold swappedStores
  simp only [] at h ⊢
  have hk : ∀ x, env.kindOf x = env.scope.names.lookup x := fun _ => rfl
  have hb : env.blockKind = blkKind env.scope := rfl
  simp only [hk, hb]
  split at h
  · rename_i z
    cases h
    simp only [z, if_true]
  · rename_i z
    split at h
    · rename_i z2
      cases h
      exact (if_neg z).trans (if_pos z2)
    · rename_i z2
      split at h
      · rename_i z3
        cases h
        exact (if_neg z).trans ((if_neg z2).trans (if_pos z3))
      · rename_i z3
        split at h
        · rename_i z4
          cases h
          exact (if_neg z).trans ((if_neg z2).trans ((if_neg z3).trans (if_pos z4)))
        · rename_i z4
          split at h
          · cases h
          · rename_i z5
            cases h
            exact (if_neg z).trans ((if_neg z2).trans ((if_neg z3).trans ((if_neg z4).trans (if_neg z5))))
/-- [..] stored to a name: whether the two trade places -/
def swC (sc : Scope) (x : Str) (p pv : Pos) (scope : Scope) : Bool :=
  blkKind sc == .function && sc.names.lookup x == some .local && p.line == pv.line && !(scope.names.any fun (n, k) => n == x && (k == .local || k == .cell))
theorem swC_ok {env : PySem.Env} {elt : Expr} {gs : List Comprehension} {scope : Scope} {pos py : Pos} {y : Str} {l : Nat} : swapsWith (.ListComp elt gs scope pos) (some (.Name y py)) l env = pure (swC env.scope y py pos scope) := rfl
def E.isComp : E → Bool
  | .comp .. => true
  | .compN .. => true
  | _ => false
theorem E.noswap {e : E} (h : e.isComp = false) (t : Option Expr) (l : Nat) (env : PySem.Env) : swapsWith e.py t l env = pure false := by
  cases e <;> first | (rw [E.py]; rfl) | (simp [E.isComp] at h)
def okNm (N : List Str) (sc : Scope) (fnb : Str → Bool) (m : Nm) : Bool := okT N sc fnb (.nm m.i m.x m.p)
section
variable {X : Cx} {c : Cc} {Γ : Env} {tb : Tb} {n : Nat} {st : Stmt} {sts : List Stmt} {e : Expr} {w : Wm} {rs : List V} {s : St} {σ : L2.St} {H : Hp}
theorem okNm_ok {m : Nm} (h : okNm X.N X.env.scope X.fn m = true) : X.N[m.i]? = some m.x ∧ Loc X.env.scope m.x ∧ (X.fn m.x = true ∨ X.env.scope.names.lookup m.x = some .local) := by
  unfold okNm at h
  rw [okT, Bool.and_eq_true, decide_eq_true_eq] at h
  refine ⟨h.1, ?_, ?_⟩
  · have := h.2
    split at this
    · rename_i h; exact .inl h
    · rename_i h; exact .inr h
    · cases this
  · have := h.2
    split at this
    · rename_i h; exact .inr h
    · exact .inl this
    · cases this
theorem i_set {m : M Slot} {i : Nat} : ∀ D σ H, tS c (bnd m fun x => bnd (setSlot i x) fun _ => ret .nx) D σ H → tAsg (tO c m) (gName i) D σ H := fun D σ H ⟨w, rs, s, fl, s', R, e, k⟩ => by
  obtain ⟨x, s1, e1, e2⟩ := bnd_some.mp e
  obtain ⟨u, s2, e3, e4⟩ := bnd_some.mp e2
  cases ret_some.mp e4
  refine ⟨w, rs, s, x, s1, R, e1, fun v as H1 w1 R1 q st1 => ?_⟩
  obtain ⟨w2, R2, hw⟩ := R1.setPend q e3
  refine k _ H1 w2 R2 fun a o h kk => ?_
  obtain ⟨z1, z2⟩ := st1 a o h kk
  refine ⟨z1, ?_⟩
  rcases hw a with q | ⟨_, _, f⟩
  · rw [q]; exact z2
  · exact absurd rfl (f a o h kk)
def okSet (sc : Scope) (m : Nm) (e : OE) : Bool :=
  match e.e with
  | .comp _ _ _ _ scope _ p => !(swC sc m.x m.p p scope) || decide (sc.names.lookup m.x = some .local)
  | e => !e.isComp
theorem s_setC (G : Gd X c Γ tb n) {m : Nm} {p q : Pos} {ms : M Slot} {elt : Expr} {t : Tg} {it : Wk} {ifs : Es} {scope : Scope} {own : List (Str × Nat)} {te : TE} (k1 : X.N[m.i]? = some m.x) (hl : X.env.scope.names.lookup m.x = some .local)
    (hs : swC X.env.scope m.x m.p q scope = true) (ok : okLc tb X.N X.env.scope t it ifs scope own = true) (h : ∀ {X' : Cx}, Gd X' c Γ tb n → X'.N = X.N → X'.env.scope = relS scope X.env.scope → PE X' elt te)
    (hi : ∀ σ H Q, tO c ms σ H Q → tLc (tI c (denIt Γ it)) (tG c t) (tBo c (denIfs Γ ifs)) te (own.map (·.2)) σ H Q) :
    PS X (.Assign [.Name m.x m.p] (.ListComp elt [⟨t.py, it.py, ifs.py, 0⟩] scope q) p) (tS c (bnd ms fun x => bnd (setSlot m.i x) fun _ => ret .nx)) := by
  unfold okLc at ok
  simp only [Bool.and_eq_true] at ok
  obtain ⟨⟨⟨⟨h1, h2⟩, h3⟩, h4⟩, h5⟩ := ok
  refine pimpS (ps_setLc (i := m.i) (g := tG c t) (wi := tI c (denIt Γ it)) (tt := tBo c (denIfs Γ ifs)) (te := te) (own := own) G.calm G.nd k1 hl (by rw [swC_ok, hs]) (sWk it G t h4) (blkOk_by h1) (fun s H C cl fp => ?_) (fun s H C cl fp => ?_) (fun s H C cl fp => ?_) (it.nofold _)) fun D σ H q => hi _ _ _ (i_set D σ H q)
  · exact sT (X := X.blk s H scope (compEnvC scope cl C X.env) fp) G.nd G.calm t h3
  · exact sIfs ifs (G.blk s H scope _ fp) h5
  · exact h (G.blk s H scope _ fp) rfl rfl
theorem okLc_of {N : List Str} {sc : Scope} {elt : E} {t : Tg} {it : Wk} {ifs : Es} {scope : Scope} {own : List (Str × Nat)} {q : Pos} (ok : okE tb N sc (.comp elt t it ifs scope own q) = true) : okLc tb N sc t it ifs scope own = true ∧ okE tb N (relS scope sc) elt = true := by
  rw [okE] at ok
  rw [Bool.and_eq_true] at ok
  exact ok
theorem s_set (G : Gd X c Γ tb n) {m : Nm} {e : OE} {p : Pos} (h1 : okNm X.N X.env.scope X.fn m = true) (h2 : okOE tb X.N X.env.scope e = true) (h3 : okSet X.env.scope m e = true) :
    PS X (.Assign [m.py] e.e.py p) (tS c (bnd (denOE Γ e) fun x => bnd (setSlot m.i x) fun _ => ret .nx)) := by
  obtain ⟨k1, k2, k3⟩ := okNm_ok h1
  by_cases hc : e.e.isComp = true
  · obtain ⟨elt, t, it, ifs, scope, own, q, he⟩ : ∃ elt t it ifs scope own q, e.e = .comp elt t it ifs scope own q := by
      cases hh : e.e <;> rw [hh] at hc <;> simp [E.isComp] at hc
      · exact ⟨_, _, _, _, _, _, _, rfl⟩
      · simp [okSet, hh, E.isComp] at h3
    simp only [okSet, he, Bool.or_eq_true, Bool.not_eq_true', decide_eq_true_eq] at h3
    by_cases hs : swC X.env.scope m.x m.p q scope = true
    · have hl : X.env.scope.names.lookup m.x = some .local := by
        rcases h3 with z | z
        · rw [hs] at z; cases z
        · exact z
      cases e with
      | v e =>
        have he : e = _ := he
        subst he
        obtain ⟨o1, o2⟩ := okLc_of (q := q) h2
        show PS X (.Assign [.Name m.x m.p] (E.comp elt t it ifs scope own q).py p) _
        rw [E.py, denOE]
        refine s_setC G k1 hl hs o1 (fun G' e1 e2 => (sE _ G' (by rw [e1, e2]; exact o2)).1) fun σ H Q z => ?_
        have z2 := i_ov _ _ _ z
        rw [den] at z2
        exact i_comp (okLc_ids o1) _ _ _ z2
      | o e =>
        have he : e = _ := he
        subst he
        have h2 : okF tb X.N X.env.scope (.comp elt t it ifs scope own q) = true := h2
        simp only [okF, Bool.and_eq_true] at h2
        show PS X (.Assign [.Name m.x m.p] (E.comp elt t it ifs scope own q).py p) _
        rw [E.py, denOE]
        refine s_setC G k1 hl hs h2.1 (fun G' e1 e2 => (sE _ G' (by rw [e1, e2]; exact h2.2)).1) fun σ H Q z => ?_
        exact i_compF (okLc_ids h2.1) _ _ _ (i_oo _ _ _ z)
      | oo e =>
        have he : e = _ := he
        subst he
        have h2 : okR tb X.N X.env.scope (.comp elt t it ifs scope own q) = true := h2
        simp only [okR, Bool.and_eq_true] at h2
        show PS X (.Assign [.Name m.x m.p] (E.comp elt t it ifs scope own q).py p) _
        rw [E.py, denOE]
        refine s_setC G k1 hl hs h2.1 (fun G' e1 e2 => sF _ G' (by rw [e1, e2]; exact h2.2)) fun σ H Q z => ?_
        exact i_compR (okLc_ids h2.1) _ _ _ (i_or _ _ _ z)
      | oc e =>
        have he : e = _ := he
        subst he
        simp [okOE, okC] at h2
      | mv i x p => simp [OE.e] at he
      | dl es p => simp [OE.e] at he
      | dt es k p => simp [OE.e] at he
      | ife t a b p => simp [OE.e] at he
    · rw [Bool.not_eq_true] at hs
      refine pimpS (ps_set G.nd k1 k2 (sOE e G h2) ?_ k3) i_set
      rw [he]
      show swapsWith (E.comp elt t it ifs scope own q).py (some (.Name m.x m.p)) p.line X.env = pure false
      rw [E.py, swC_ok, hs]
  · rw [Bool.not_eq_true] at hc
    exact pimpS (ps_set G.nd k1 k2 (sOE e G h2) (E.noswap hc _ _ _) k3) i_set
end
end Dm

/-! The D machine: further assignments. -/
namespace Dm
open PySem L2 PyProof.Rows
section
variable {X : Cx} {c : Cc} {Γ : Env} {tb : Tb} {n : Nat} {st : Stmt} {sts : List Stmt} {e : Expr} {w : Wm} {rs : List V} {s : St} {σ : L2.St} {H : Hp}
theorem Pends.step {w w' w0 : Wm} {H H' H0 : Hp} (st : Step w H w' H') : ∀ {as : List Addr} {vs : List V} {xs : List Slot}, Pends c w H w0 H0 as vs xs → Pends c w' H' w0 H0 as vs xs
  | _, _, _, .nil => .nil
  | _, _, _, .cons h d r => .cons (h.step st) d (Pends.step st r)
def gNames : List Nm → TGs
  | [] => gNil
  | n :: ns => gCons (gName n.i) (gNames ns)
theorem gNames_ok : ∀ {ns : List Nm} {vs : List V} {σ : L2.St} {H : Hp} {Q : L2.St → Hp → Prop}, ns.length = vs.length → Q (storeAll σ ns vs) H → gNames ns vs σ H Q
  | [], [], _, _, _, _, h => ⟨rfl, h⟩
  | n :: ns, v :: vs, σ, H, Q, hl, h => ⟨v, vs, rfl, gNames_ok (by simpa using hl) h⟩
theorem pgs_names (hN : X.N.Nodup) : ∀ (ns : List Nm), (∀ m ∈ ns, okNm X.N X.env.scope X.fn m = true) → PGs X (ns.map Nm.py) (gNames ns)
  | [], _ => pgs_nil
  | m :: ns, h => by
    obtain ⟨k1, k2, k3⟩ := okNm_ok (h m List.mem_cons_self)
    exact pgs_cons (pg_name hN k1 k2 k3) (pgs_names hN ns fun m' hm => h m' (List.mem_cons_of_mem _ hm))
theorem names_each (env : PySem.Env) : ∀ ns : List Nm, (assignEach (ns.map Nm.py) env).length = ns.length ∧ (assignEach (ns.map Nm.py) env).findIdx? (·.1) = none
  | [] => ⟨rfl, rfl⟩
  | m :: ns => by
    obtain ⟨h1, h2⟩ := names_each env ns
    rw [List.map_cons]
    show ((false, assign m.py env) :: assignEach (ns.map Nm.py) env).length = _ ∧ ((false, assign m.py env) :: assignEach (ns.map Nm.py) env).findIdx? (·.1) = none
    exact ⟨by rw [List.length_cons, h1, List.length_cons], by rw [List.findIdx?_cons, h2]; rfl⟩
theorem i_plain {ns : List Nm} {m : M (List Slot)} (hn : ns.length ≤ 10) : ∀ D σ H, tS c (bnd m fun xs => bnd (setSlots ns xs) fun _ => ret .nx) D σ H → tAsg (tTup (tP c m)) (gTup c.K ns.length (gNames ns)) D σ H := fun D σ H ⟨w, rs, s, fl, s', R, e, k⟩ => by
  obtain ⟨xs, s1, e1, e2⟩ := bnd_some.mp e
  obtain ⟨u, s2, e3, e4⟩ := bnd_some.mp e2
  cases ret_some.mp e4
  refine ⟨w, rs, s, xs, s1, R, e1, fun vs as H1 w1 R1 q st1 => ?_⟩
  obtain ⟨hl, _⟩ := R1.setPends q st1 e3
  refine ⟨by rw [← hl]; exact Nat.le_trans hn (by decide), fun p hp => ?_⟩
  have st2 : Step w1 H1 (wnew w1 p) (upd H1 p (.tup vs)) := Step.new hp
  obtain ⟨_, w', R', st'⟩ := (R1.new hp).setPends (q.step st2) (st1.trans st2) e3
  exact ⟨p, vs, rfl, .of upd_same, hl.symm, gNames_ok hl (k _ _ w' R' st')⟩
theorem i_par2 {a b : Nm} {m : M (List Slot)} : ∀ D σ H, tS c (bnd m fun xs => bnd (setSlots [a, b] xs) fun _ => ret .nx) D σ H → tPar a.i b.i (tP c m) D σ H := fun D σ H ⟨w, rs, s, fl, s', R, e, k⟩ => by
  obtain ⟨xs, s1, e1, e2⟩ := bnd_some.mp e
  obtain ⟨u, s2, e3, e4⟩ := bnd_some.mp e2
  cases ret_some.mp e4
  refine ⟨w, rs, s, xs, s1, R, e1, fun vs as H1 w1 R1 q st1 => ?_⟩
  obtain ⟨hl, w', R', st'⟩ := R1.setPends q st1 e3
  match vs, hl with
  | [v1, v2], _ => exact ⟨v1, v2, rfl, k _ _ w' R' st'⟩
theorem i_par3 {a b d : Nm} {m : M (List Slot)} : ∀ D σ H, tS c (bnd m fun xs => bnd (setSlots [a, b, d] xs) fun _ => ret .nx) D σ H → tPar3 a.i b.i d.i (tP c m) D σ H := fun D σ H ⟨w, rs, s, fl, s', R, e, k⟩ => by
  obtain ⟨xs, s1, e1, e2⟩ := bnd_some.mp e
  obtain ⟨u, s2, e3, e4⟩ := bnd_some.mp e2
  cases ret_some.mp e4
  refine ⟨w, rs, s, xs, s1, R, e1, fun vs as H1 w1 R1 q st1 => ?_⟩
  obtain ⟨hl, w', R', st'⟩ := R1.setPends q st1 e3
  match vs, hl with
  | [v1, v2, v3], _ => exact ⟨v1, v2, v3, rfl, k _ _ w' R' st'⟩
def locals (sc : Scope) (ns : List Nm) : Bool := ns.all fun m => decide (sc.names.lookup m.x = some .local)
def okPar (sc : Scope) (ns : List Nm) (es : List OE) : Bool :=
  decide (ns.length ≤ 10) && match swS sc (ns.map Nm.py) (es.map fun e => e.e.py) with
  | some none => true
  | some (some xs) => decide (xs = ns.map (·.x)) && locals sc ns && decide ((ns.map (·.i)).Nodup) && (decide (ns.length = 2) || decide (ns.length = 3)) && decide (es.length = ns.length)
  | none => false
theorem s_par (G : Gd X c Γ tb n) {ns : List Nm} {es : List OE} {kt ke : Nat} {pt pe p : Pos} (h1 : (ns.all fun m => okNm X.N X.env.scope X.fn m) = true) (h2 : (es.all fun e => okOE tb X.N X.env.scope e) = true) (h3 : okPar X.env.scope ns es = true) :
    PS X (.Assign [.Tuple (ns.map Nm.py) kt pt] (.Tuple (es.map fun e => e.e.py) ke pe) p) (tS c (bnd (denOEs Γ es) fun xs => bnd (setSlots ns xs) fun _ => ret .nx)) := by
  have hns : ∀ m ∈ ns, okNm X.N X.env.scope X.fn m = true := List.all_eq_true.mp h1
  have hpa := sPs es G h2
  unfold okPar at h3
  rw [Bool.and_eq_true, decide_eq_true_eq] at h3
  obtain ⟨hn, h3⟩ := h3
  cases hs : swS X.env.scope (ns.map Nm.py) (es.map fun e => e.e.py) with
  | none => rw [hs] at h3; cases h3
  | some r =>
    rw [hs] at h3
    have hw := fun kt pt ke pe => sw_ok (k := kt) (p := pt) (k' := ke) (p' := pe) hs
    cases r with
    | none =>
      obtain ⟨a1, a2⟩ := names_each X.env ns
      have ih := i_plain (c := c) (ns := ns) (m := denOEs Γ es) hn
      rw [← G.K] at ih
      exact pimpS (ps_asg (pe_tup hpa) (pg_tup G.calm (pgs_names G.nd ns hns) a1 a2) rfl (hw _ _ _ _) rfl) ih
    | some xs =>
      simp only [Bool.and_eq_true, decide_eq_true_eq, Bool.or_eq_true] at h3
      obtain ⟨⟨⟨⟨q1, q2⟩, q3⟩, q4⟩, q5⟩ := h3
      subst q1
      have hloc : ∀ m ∈ ns, X.env.scope.names.lookup m.x = some .local := fun m hm => by simpa using List.all_eq_true.mp q2 m hm
      match ns, es, q4, q5 with
      | [a, b], [e1, e2], _, _ =>
        have d1 : a.i ≠ b.i := by simpa using q3
        exact pimpS (ps_par G.calm G.nd (okNm_ok (hns a (by simp))).1 (okNm_ok (hns b (by simp))).1 d1 (hloc a (by simp)) (hloc b (by simp)) hpa (hw _ _ _ _)) i_par2
      | [a, b, d], [e1, e2, e3], _, _ =>
        have d1 : a.i ≠ b.i ∧ a.i ≠ d.i ∧ b.i ≠ d.i := by
          simp at q3
          exact ⟨q3.1.1, q3.1.2, q3.2⟩
        exact pimpS (ps_par3 G.calm G.nd (okNm_ok (hns a (by simp))).1 (okNm_ok (hns b (by simp))).1 (okNm_ok (hns d (by simp))).1 d1.1 d1.2.1 d1.2.2 (hloc a (by simp)) (hloc b (by simp)) (hloc d (by simp)) hpa (hw _ _ _ _)) i_par3
end
end Dm

/-! The D machine: stores to items and fields; all statements. -/
namespace Dm
open PySem L2 PyProof.Rows
section
variable {X : Cx} {c : Cc} {Γ : Env} {tb : Tb} {n : Nat} {st : Stmt} {sts : List Stmt} {e : Expr} {w : Wm} {rs : List V} {s : St} {σ : L2.St} {H : Hp}
theorem set_ok {j : Nat} {i x d : D} {iv v : V} {s' : St} {Q : Hp → Prop} (R : Rel c w rs s σ H) (hi : Is c w H iv i) (hv : Is c w H v x) (e : mutF j (setAt i x) s = some (d, s'))
    (k : ∀ H', Rel c w rs s' σ H' → Step w H w H' → Q H') : ∃ a, σ[j]? = some (some (.ref a)) ∧ rSetL (.ref a) iv v H Q := by
  obtain ⟨a, vs, ds, ds', hs, h1, r, ef, km⟩ := R.mut e
  refine ⟨a, hs, ?_⟩
  unfold setAt at ef
  split at ef
  · rename_i kk
    split at ef
    · rename_i jj ej
      cases ef
      cases hi
      obtain ⟨R', st⟩ := km _ (r.set jj hv)
      exact ⟨a, vs, kk, jj, rfl, rfl, h1, by rw [r.length]; exact ej, k _ R' st⟩
    · cases ef
  · cases ef
theorem i_setI {j : Nat} {m mi : M D} : ∀ D σ H, tS c (bnd m fun d => bnd (peekL j) fun _ => bnd mi fun y => bnd (mutF j (setAt y d)) fun _ => ret .nx) D σ H → tAsg (tE c m) (gSub (tVar j) (tE c mi) rSetL) D σ H := fun D σ H ⟨w, rs, s, fl, s', R, e, k⟩ => by
  obtain ⟨d, s1, e1, e2⟩ := bnd_some.mp e
  obtain ⟨u, s2, e3, e4⟩ := bnd_some.mp e2
  obtain ⟨y, s3, e5, e6⟩ := bnd_some.mp e4
  obtain ⟨z, s4, e7, e8⟩ := bnd_some.mp e6
  cases ret_some.mp e8
  refine ⟨w, rs, s, d, s1, R, e1, fun v H1 w1 R1 q1 st1 => ?_⟩
  obtain ⟨rfl, a, vs, hv, ha⟩ := R1.peekLV e3
  refine ⟨_, hv, w1, rs, s2, y, s3, R1, e5, fun iv H2 w2 R2 q2 st2 => ?_⟩
  obtain ⟨a', hv', q⟩ := set_ok R2 q2 (q1.step st2) e7 fun H' R' st' => k σ H' w2 R' ((st1.trans st2).trans st')
  rw [hv] at hv'; cases hv'
  exact q
theorem i_subnm {j i : Nat} {kk : Int} {m : M D} : ∀ D σ H, tS c (bnd m fun d => match d with
    | .tup [a, b] => bnd (mutF j (setAt (.int kk) a)) fun _ => bnd (setV i b) fun _ => ret .nx
    | _ => fail) D σ H → tAsg (tE c m) (gTup c.K 2 (gCons (gSub (tVar j) (tC (.int kk)) rSetL) (gCons (gName i) gNil))) D σ H := fun D σ H ⟨w, rs, s, fl, s', R, e, k⟩ => by
  obtain ⟨d, s1, e1, e2⟩ := bnd_some.mp e
  split at e2
  · rename_i a b
    obtain ⟨u, s2, e3, e4⟩ := bnd_some.mp e2
    obtain ⟨y, s3, e5, e6⟩ := bnd_some.mp e4
    cases ret_some.mp e6
    refine ⟨w, rs, s, _, s1, R, e1, fun v H1 w1 R1 q1 st1 => ?_⟩
    cases q1 with
    | tup h r =>
      cases r with
      | cons qa r =>
        cases r with
        | cons qb r =>
          cases r
          rename_i va vb
          unfold setV at e5
          split at e5
          · cases e5
            obtain ⟨a', hv', q⟩ := set_ok (v := va) (Q := fun H' => ∃ v r, [vb] = v :: r ∧ gName i v σ H' fun σ' H' => r = [] ∧ D.nx σ' H') R1 (.int kk) qa e3 fun H' R' st' => ⟨vb, [], rfl, rfl, k _ H' w1 (R'.set (qb.step st')) (st1.trans st')⟩
            exact ⟨_, [va, vb], rfl, h.sq, rfl, va, [vb], rfl, _, hv', q⟩
          · cases e5
  · exact (fail_some.mp e2).elim
/-- fields -/
theorem putF_zip : ∀ {ns : List Str} {vs : List V} {f : Str} {v : V}, ns.Nodup → ns[vs.length]? = some f → putF f v (ns.zip vs) = ns.zip (vs ++ [v])
  | [], _, _, _, _, h => by simp at h
  | n :: ns, [], f, v, _, h => by
    simp at h
    subst h
    simp [putF]
  | n :: ns, u :: vs, f, v, nd, h => by
    rw [List.nodup_cons] at nd
    have h' : ns[vs.length]? = some f := by simpa using h
    have ne : n ≠ f := fun z => nd.1 (z ▸ List.mem_of_getElem? h')
    rw [List.zip_cons_cons, List.cons_append, List.zip_cons_cons]
    show (if n = f then (n, v) :: ns.zip vs else (n, u) :: putF f v (ns.zip vs)) = _
    rw [if_neg ne, putF_zip nd.2 h']
theorem i_setF (hf : c.fn = Γ.fn) (hc : ∀ q, Γ.fn q ≠ [] → ClsOk c q) (hb : ∀ q, (Γ.fn q).length ≤ 900) {j k : Nat} {f : Str} {m : M D} : ∀ D σ H, tS c (bnd m fun d => bnd (setFld j k f Γ.fn d) fun _ => ret .nx) D σ H → sFld c.K (tVar j) (tE c m) f D σ H := fun D σ H ⟨w, rs, s, fl, s', R, e, kq⟩ => by
  obtain ⟨d, s1, e1, e2⟩ := bnd_some.mp e
  obtain ⟨u, s2, e3, e4⟩ := bnd_some.mp e2
  cases ret_some.mp e4
  refine ⟨w, rs, s, d, s1, R, e1, fun v H1 w1 R1 q1 st1 => ?_⟩
  unfold setFld at e3
  split at e3
  · rename_i q eq
    split at e3
    · rename_i cc fs es
      split at e3
      · rename_i hk
        cases e3
        obtain ⟨x, ex, v', rfl, ev⟩ := R1.at eq
        obtain ⟨v'', ev', qo⟩ := R1.st q _ es
        rw [ev] at ev'; cases ev'
        cases qo with
        | oobj h1 h2 h3 r =>
          rename_i a dx vs
          have ne : Γ.fn cc ≠ [] := fun z => by rw [z] at hk; simp at hk
          have co := hc cc ne
          have hlen : vs.length = k := by rw [r.length, ← hk.1]
          have hfk : (c.fn cc)[vs.length]? = some f := by rw [hf, hlen]; exact hk.2
          refine ⟨_, ex, a, _, dx, _, rfl, h2, co.cls, co.no f (by rw [hf]; exact List.mem_of_getElem? hk.2), ?_, ?_⟩
          · rw [List.length_zip]
            have := hb cc
            rw [← hf] at this
            omega
          · rw [putF_zip co.nd hfk]
            have hw : w1 a = cow q [] := h1
            have g1 : StepN w1 H1 w1 (upd H1 a (.ins (c.cl cc) dx ((c.fn cc).zip (vs ++ [v])))) := fun b u hb hw' => by
              refine ⟨?_, hw'⟩
              rw [upd_ne]; exact hb
              intro z; rw [z, hw] at hw'; cases hw'
            have g2 : Step w1 H1 w1 (upd H1 a (.ins (c.cl cc) dx ((c.fn cc).zip (vs ++ [v])))) := fun b u hb hw' => by
              refine ⟨?_, rfl⟩
              rw [upd_ne]; exact hb
              intro z; rw [z, hw] at hw'; rcases hw' with z | z <;> cases z
            have g3 : ∀ b u, H1 b = some u → w1 b ≠ cow q [] → (upd H1 a (.ins (c.cl cc) dx ((c.fn cc).zip (vs ++ [v])))) b = some u ∧ w1 b = w1 b := fun b u hb hw' => by
              refine ⟨?_, rfl⟩
              rw [upd_ne]; exact hb
              intro z; rw [z] at hw'; exact hw' hw
            refine kq σ _ w1 ⟨R1.len, fun i y x e5 e6 => ?_, fun k' o e5 => ?_⟩ (st1.trans g2)
            · have z := R1.sl i y x e5 e6
              cases y with
              | no => trivial
              | val d => obtain ⟨v, e, q⟩ := z; exact ⟨v, e, q.stepN g1⟩
              | own o =>
                obtain ⟨v, e, q⟩ := z
                refine ⟨v, e, q.keepN g1 fun b u p hb hw' => g3 b u hb ?_⟩
                rw [hw']; unfold sow cow; intro z; cases z
              | ref k => exact z
              | pin d k => obtain ⟨v, e, e', q⟩ := z; exact ⟨v, e, e', q.stepN g1⟩
            · by_cases hk' : k' = q
              · subst hk'
                simp only [List.getElem?_set_self (List.getElem?_eq_some_iff.mp es).1] at e5
                cases e5
                refine ⟨_, ev, .oobj hw upd_same ?_ ((r.append (.cons q1 .nil)).stepN g1)⟩
                rw [List.length_append, List.length_singleton]
                have := (List.getElem?_eq_some_iff.mp hfk).1
                omega
              · simp only [List.getElem?_set_ne (Ne.symm hk')] at e5
                obtain ⟨v, e7, q⟩ := R1.st k' o e5
                refine ⟨v, e7, q.keepN g1 fun b u p hb hw' => g3 b u hb ?_⟩
                rw [hw']; unfold cow; intro z; injection z with z1 _; exact hk' z1
      · cases e3
    · cases e3
  · cases e3
theorem i_retO {m : M Slot} : ∀ D σ H, tS c (bnd m rtM) D σ H → tRet (tO c m) D σ H := fun D σ H ⟨w, rs, s, fl, s', R, e, k⟩ => by
  obtain ⟨x, s1, e1, e2⟩ := bnd_some.mp e
  refine ⟨w, rs, s, x, _, R, e1, fun v as H1 w1 R1 h st1 => ?_⟩
  cases x with
  | val d =>
    cases ret_some.mp e2
    exact k σ H1 w1 R1 st1 v (.leaf h.2)
  | own o =>
    cases ret_some.mp e2
    obtain ⟨ls, rfl, h1, nd, h3⟩ := h
    have ho : ∀ a ∈ ls.map (·.1), w1 a = .out := fun a ha => (h3 a ha).1
    refine k σ H1 _ (R1.wown (k := row) ho) (fun a o ha kk => ?_) v (h1.lab (k := row) (wown_n ho) nd)
    obtain ⟨z1, z2⟩ := st1 a o ha kk
    refine ⟨z1, ?_⟩
    rw [wown_ne fun hm => (h3 a hm).2 a o ha kk rfl]
    exact z2
  | no => exact h.elim
  | ref => exact h.elim
  | pin => exact h.elim
/-- the labels as they were -/
def wkeep (w0 w3 : Wm) (H0 : Hp) (j : Nat) : Wm := fun a => match w0 a, H0 a with
  | .slot i p, some _ => if i = j then .slot i p else w3 a
  | _, _ => w3 a
theorem wkeep_own {w0 w3 : Wm} {H0 : Hp} {j : Nat} {a : Addr} {p : List Nat} {o : HO} (h : w0 a = .slot j p) (ho : H0 a = some o) : wkeep w0 w3 H0 j a = .slot j p := by
  unfold wkeep; rw [h, ho]; simp
theorem wkeep_ne {w0 w3 : Wm} {H0 : Hp} {j : Nat} {a : Addr} (h : ∀ p o, w0 a = .slot j p → H0 a = some o → False) : wkeep w0 w3 H0 j a = w3 a := by
  unfold wkeep
  split
  · rename_i i p o e1 e2
    split
    · rename_i z; subst z; exact (h p o e1 e2).elim
    · rfl
  · rfl
theorem IsAll.atoms {w w' : Wm} {H H' : Hp} : ∀ {vs : List V} {ds : List D}, ds.all D.atom = true → IsAll c w H vs ds → IsAll c w' H' vs ds
  | _, _, _, .nil => .nil
  | _, _, h, .cons q r => by
    rw [List.all_cons, Bool.and_eq_true] at h
    refine .cons ?_ (IsAll.atoms h.2 r)
    cases q <;> first | exact .non | exact .bl _ | exact .int _ | exact .str _ | (simp [D.atom] at h)
theorem IsRows.stepK {k : List Nat → Ow} {w w' : Wm} {H H' : Hp} (sN : StepN w H w' H') (hk : ∀ a o p, H a = some o → w a = k p → H' a = some o ∧ w' a = w a) {n : Nat} {vs : List V} {dss : List (List D)} (r : IsRows c w H k n vs dss) : IsRows c w' H' k n vs dss := r.keepN sN hk
theorem IsRows.get {k : List Nat → Ow} {w : Wm} {H : Hp} : ∀ {n : Nat} {vs : List V} {dss : List (List D)}, IsRows c w H k n vs dss → ∀ {i : Nat} {ds : List D}, dss[i]? = some ds → ∃ a us, vs[i]? = some (.ref a) ∧ w a = k [n + i] ∧ H a = some (.lst us) ∧ IsAll c w H us ds
  | _, _, _, .nil, _, _, e => by simp at e
  | n, _, _, .cons h1 h2 q r, 0, _, e => by simp at e; subst e; exact ⟨_, _, rfl, h1, h2, q⟩
  | n, _, _, .cons h1 h2 q r, i + 1, ds, e => by
    obtain ⟨a, us, e1, e2, e3⟩ := IsRows.get r (i := i) (by simpa using e)
    exact ⟨a, us, by simpa using e1, by rw [e2]; congr 2; omega, e3⟩
theorem IsRows.length {k : List Nat → Ow} {w : Wm} {H : Hp} : ∀ {n : Nat} {vs : List V} {dss : List (List D)}, IsRows c w H k n vs dss → vs.length = dss.length
  | _, _, _, .nil => rfl
  | _, _, _, .cons _ _ _ r => by rw [List.length_cons, List.length_cons, IsRows.length r]
/-- a row is changed -/
theorem IsRows.put {j : Nat} {w : Wm} {H H' : Hp} {a : Addr} {us' : List V} {ds' : List D} (hr : IsAll c w H' us' ds') (ha : H' a = some (.lst us')) (hk : ∀ b o, H b = some o → b ≠ a → H' b = some o) (hN : StepN w H w H') :
    ∀ {n i : Nat} {vs : List V} {dss : List (List D)}, IsRows c w H (sow j) n vs dss → w a = sow j [n + i] → vs[i]? = some (.ref a) → IsRows c w H' (sow j) n vs (dss.set i ds')
  | _, _, _, _, .nil, _, e => by simp at e
  | n, 0, _, _, .cons h1 h2 q r, hw, e => by
    simp at e; subst e
    rw [List.set_cons_zero]
    refine .cons h1 ha hr ?_
    have aux : ∀ {m : Nat} {vs : List V} {dss : List (List D)}, n < m → IsRows c w H (sow j) m vs dss → IsRows c w H' (sow j) m vs dss := by
      intro m vs dss hm r
      induction r with
      | nil => exact .nil
      | cons g1 g2 g3 _ ih =>
        refine .cons g1 (hk _ _ g2 fun z => ?_) (g3.stepN hN) (ih (by omega))
        subst z
        rw [g1] at hw
        unfold sow at hw
        injection hw with _ hw
        simp at hw
        omega
    exact aux (Nat.lt_succ_self n) r
  | n, i + 1, _, _, .cons (a := b) h1 h2 q r, hw, e => by
    rw [List.set_cons_succ]
    refine .cons h1 (hk _ _ h2 fun z => ?_) (q.stepN hN) (IsRows.put hr ha hk hN r (by rw [hw]; congr 2; omega) (by simpa using e))
    subst z
    rw [h1] at hw
    unfold sow at hw
    injection hw with _ hw
    simp at hw
theorem i_setII {j : Nat} {m mi mj : M D} : ∀ D σ H, tS c (bnd m fun d => setII mi mj j d) D σ H → tAsg (tE c m) (gSub (tOp (rIx c.K) (tVar j) (tE c mi)) (tE c mj) rSetL) D σ H := fun D σ H ⟨w, rs, s, fl, s', R, e, k⟩ => by
  obtain ⟨d, s0, e0, e⟩ := bnd_some.mp e
  refine ⟨w, rs, s, d, s0, R, e0, fun v H0 w0 R0 q0 st0 => ?_⟩
  unfold setII at e
  split at e
  · rename_i dss ej
    split at e
    · rename_i hno
      split at e
      · rename_i a s1 e1
        split at e
        · rename_i r er
          split at e
          · rename_i ds ed
            split at e
            · rename_i b s2 e2
              split at e
              · rename_i l el
                split at e
                · rename_i hfl
                  cases e
                  obtain ⟨vx, hvx, R1, q1⟩ := R0.free ej
                  obtain ⟨x, hx, vx', rfl, qo⟩ := R0.at ej
                  rw [hvx] at hx; cases hx
                  cases qo with
                  | ll g1 g2 g3 =>
                    rename_i a0 vs0
                    refine ⟨_, hvx, wfree w0 j, rs, _, _, s1, R1, e1, fun v1 H1 w1 R2 p1 st1 => ?_⟩
                    cases p1
                    have c0 := st1 a0 _ g2 (.inl (wfree_own g1))
                    obtain ⟨ra, us, h1, h2, h3, h4⟩ := g3.get ed
                    have hlen := g3.length
                    refine .inl ⟨_, _, _, _, rfl, rfl, .of c0.1, (by unfold atI; rw [hlen, er]; exact h1), ?_⟩
                    refine ⟨w1, rs, s1, _, s2, R2, e2, fun v2 H2 w2 R3 p2 st2 => ?_⟩
                    cases p2
                    have hown : wfree w0 j ra = .no := wfree_own h2
                    have st12 := st1.trans st2
                    have c1 := st12 ra _ h3 (.inl hown)
                    refine ⟨ra, us, _, l, rfl, rfl, c1.1, by rw [h4.length]; exact el, ?_⟩
                    -- the labels as they were
                    let w3 := wkeep w0 w2 H0 j
                    have kN : ∀ b o, H0 b = some o → w0 b = .no → H2 b = some o ∧ w3 b = .no := fun b o hb kb => by
                      have z : wfree w0 j b = .no := by unfold wfree; rw [kb]
                      obtain ⟨z1, z2⟩ := st12 b o hb (.inl z)
                      refine ⟨z1, ?_⟩
                      show wkeep w0 w2 H0 j b = .no
                      rw [wkeep_ne (fun p o e1 _ => by rw [kb] at e1; cases e1), z2, z]
                    have kO : ∀ b o, H0 b = some o → w0 b = .out → H2 b = some o ∧ w3 b = .out := fun b o hb kb => by
                      have z : wfree w0 j b = .out := by unfold wfree; rw [kb]
                      obtain ⟨z1, z2⟩ := st12 b o hb (.inr z)
                      refine ⟨z1, ?_⟩
                      show wkeep w0 w2 H0 j b = .out
                      rw [wkeep_ne (fun p o e1 _ => by rw [kb] at e1; cases e1), z2, z]
                    have kS : ∀ b o p, H0 b = some o → w0 b = sow j p → H2 b = some o ∧ w3 b = w0 b := fun b o p hb kb => by
                      obtain ⟨z1, z2⟩ := st12 b o hb (.inl (wfree_own kb))
                      exact ⟨z1, by rw [kb]; exact wkeep_own kb hb⟩
                    have sN : StepN w0 H0 w3 H2 := kN
                    have wra : w3 ra = sow j [0 + r] := by rw [(kS ra _ _ h3 h2).2]; exact h2
                    -- the store
                    let H3 := upd H2 ra (.lst (us.set l v))
                    have sN3 : StepN w3 H2 w3 H3 := fun b o hb kb => by
                      refine ⟨?_, kb⟩
                      show upd H2 ra _ b = _
                      rw [upd_ne (fun z => by rw [z, wra] at kb; cases kb)]
                      exact hb
                    have sN03 : StepN w0 H0 w3 H3 := fun b o hb kb => sN3 b o (kN b o hb kb).1 (kN b o hb kb).2
                    refine k σ H3 w3 ⟨?_, fun i y x e1 e2 => ?_, fun i o ei => ?_⟩ fun b o hb kb => ?_
                    · simpa using R0.len
                    · by_cases hi : i = j
                      · subst hi
                        simp only [List.getElem?_set_self (List.getElem?_eq_some_iff.mp ej).1] at e1
                        cases e1
                        rw [hvx] at e2; cases e2
                        have a2 : H2 a0 = some (.lst vs0) := (st2 a0 _ c0.1 (.inl (c0.2.trans (wfree_own g1)))).1
                        refine ⟨_, rfl, .ll (vs := vs0) ((kS a0 _ _ g2 g1).2.trans g1) ?_ ?_⟩
                        · show upd H2 ra _ a0 = _
                          rw [upd_ne]
                          exact a2
                          intro z
                          rw [← z] at h2
                          rw [g1] at h2
                          unfold sow at h2
                          injection h2 with _ h2
                          simp at h2
                        · have g3' : IsRows c w3 H2 (sow i) 0 vs0 dss := g3.keepN sN kS
                          exact g3'.put (a := ra) (us' := us.set l v) (ds' := ds.set l d) ((h4.stepN sN03).set l (q0.stepN sN03)) upd_same (fun b o hb ne => by show upd H2 ra _ b = _; rw [upd_ne ne]; exact hb) sN3 wra h1
                      · simp only [List.getElem?_set_ne (Ne.symm hi)] at e1
                        have z := R0.sl i y x e1 e2
                        cases y with
                        | no => trivial
                        | val d => obtain ⟨v, e, q⟩ := z; exact ⟨v, e, q.stepN sN03⟩
                        | own o =>
                          have hm : Slot.own o ∈ s0.L.set j .no := by
                            refine List.mem_of_getElem? (i := i) ?_
                            rw [List.getElem?_set_ne (Ne.symm hi)]
                            exact e1
                          have := List.all_eq_true.mp hno _ hm
                          simp [Slot.notOwn] at this
                        | ref q => exact z
                        | pin d k => obtain ⟨v, e, e', q⟩ := z; exact ⟨v, e, e', q.stepN sN03⟩
                    · obtain ⟨u, e3, q⟩ := R3.st i o ei
                      refine ⟨u, e3, ?_⟩
                      have hf := List.all_eq_true.mp hfl o (List.mem_of_getElem? ei)
                      cases q with
                      | fl f1 f2 f3 =>
                        rename_i ca cvs cds
                        have nl : ∀ p o, w0 ca = .slot j p → H0 ca = some o → False := fun p o e1 e2 => by
                          have z := (st12 ca o e2 (.inl (wfree_own e1))).2
                          rw [f1, wfree_own e1] at z
                          cases z
                        have wc : w3 ca = cow i [] := (wkeep_ne nl).trans f1
                        refine .fl wc ?_ (f3.atoms hf)
                        show upd H2 ra _ ca = _
                        rw [upd_ne (fun z => by rw [z, wra] at wc; cases wc)]
                        exact f2
                      | _ => simp [OD.flat] at hf
                    · obtain ⟨y1, y2⟩ := st0 b o hb kb
                      have ne : ∀ {o'}, H2 b = some o' → (w3 b = .no ∨ w3 b = .out) → H3 b = some o' := fun {o'} hb' kb' => by
                        show upd H2 ra _ b = _
                        rw [upd_ne (fun z => by rw [z, wra] at kb'; rcases kb' with z | z <;> cases z)]
                        exact hb'
                      rcases kb with kb | kb
                      · rw [kb] at y2
                        obtain ⟨x1, x2⟩ := kN b o y1 y2
                        exact ⟨ne x1 (.inl x2), by rw [x2, kb]⟩
                      · rw [kb] at y2
                        obtain ⟨x1, x2⟩ := kO b o y1 y2
                        exact ⟨ne x1 (.inr x2), by rw [x2, kb]⟩
                · cases e
              · cases e
            · cases e
          · cases e
        · cases e
      · cases e
    · cases e
  · cases e
/-! ### lists of owned parts grow -/
theorem IsOs.snoc {w : Wm} {H : Hp} : ∀ {k : List Nat → Ow} {n : Nat} {vs us : List V} {os qs : List OD}, IsOs c w H k n vs os → IsOs c w H k (n + os.length) us qs → IsOs c w H k n (vs ++ us) (os ++ qs)
  | _, _, _, _, _, _, .nil, r => r
  | _, n, _, _, _, _, .cons (os := os) h t, r => .cons h (IsOs.snoc t (by
    rw [List.length_cons] at r
    have e : n + 1 + os.length = n + (os.length + 1) := by omega
    rw [e]; exact r))
/-- one path of a slot's tree is changed -/
theorem IsO.away {w : Wm} {H H' : Hp} {k : List Nat → Ow} {v : V} {o : OD} {b : Addr} (sN : StepN w H w H') (hb : ∀ p, w b ≠ k p) (hk : ∀ a o, H a = some o → a ≠ b → H' a = some o) (h : IsO c w H k v o) : IsO c w H' k v o :=
  IsO.keepN sN (fun a o p e1 e2 => ⟨hk a o e1 (fun z => hb p (z ▸ e2)), rfl⟩) h
theorem IsOs.put {w : Wm} {H H' : Hp} {b : Addr} {o' : OD} : ∀ {k : List Nat → Ow} {n i : Nat} {vs : List V} {os : List OD} {v : V} {p0 : List Nat}, (∀ p q, k p = k q → p = q) → StepN w H w H' → (∀ a o, H a = some o → a ≠ b → H' a = some o) → w b = k ((n + i) :: p0) →
    IsOs c w H k n vs os → vs[i]? = some v → IsO c w H' (fun p => k ((n + i) :: p)) v o' → IsOs c w H' k n vs (os.set i o')
  | _, _, _, _, _, _, _, _, _, _, _, .nil, e, _ => by simp at e
  | k, n, 0, _, _, v, p0, hi, sN, hk, hb, .cons h r, e, q => by
    simp at e; subst e
    rw [List.set_cons_zero]
    refine .cons q ?_
    have aux : ∀ {m : Nat} {vs : List V} {os : List OD}, n < m → IsOs c w H k m vs os → IsOs c w H' k m vs os := by
      intro m vs os hm r
      induction os generalizing m vs with
      | nil => cases r; exact .nil
      | cons o os ih =>
        cases r with
        | cons h r =>
          refine .cons (h.away sN (fun p z => ?_) hk) (ih (by omega) r)
          rw [hb] at z
          have := hi _ _ z
          injection this with z1 _
          omega
    exact aux (Nat.lt_succ_self n) r
  | k, n, i + 1, _, _, v, p0, hi, sN, hk, hb, .cons h r, e, q => by
    rw [List.set_cons_succ]
    have e2 : n + (i + 1) = n + 1 + i := by omega
    refine .cons (h.away sN (fun p z => ?_) hk) (IsOs.put hi sN hk (p0 := p0) (by rw [hb, e2]) r (by simpa using e) (by rw [← e2]; exact q))
    rw [hb] at z
    have := hi _ _ z
    injection this with z1 _
    omega
/-- a slot's own cells alone are changed -/
theorem Rel.own {w : Wm} {H H' : Hp} {j : Nat} {o' : OD} {v : V} (R : Rel c w rs s σ H) (hj : j < s.L.length) (hv : σ[j]? = some (some v)) (hk : ∀ a o, H a = some o → (∀ p, w a ≠ .slot j p) → H' a = some o) (q : IsO c w H' (sow j) v o') :
    Rel c w rs { s with L := s.L.set j (.own o') } σ H' ∧ Step w H w H' := by
  have sN : StepN w H w H' := fun a o h kk => ⟨hk a o h (fun p z => by rw [kk] at z; cases z), kk⟩
  refine ⟨⟨by simpa using R.len, fun i y x e1 e2 => ?_, fun i o e => ?_⟩, fun a o h kk => ⟨hk a o h (fun p z => by rw [z] at kk; rcases kk with z | z <;> cases z), rfl⟩⟩
  · by_cases hi : i = j
    · subst hi
      simp only [List.getElem?_set_self hj] at e1
      cases e1
      rw [hv] at e2; cases e2
      exact ⟨_, rfl, q⟩
    · simp only [List.getElem?_set_ne (Ne.symm hi)] at e1
      have z := R.sl i y x e1 e2
      cases y with
      | no => trivial
      | val d => obtain ⟨v, e, q⟩ := z; exact ⟨v, e, q.stepN sN⟩
      | own o =>
        obtain ⟨v, e, q⟩ := z
        exact ⟨v, e, IsO.keepN sN (fun a o p h1 h2 => ⟨hk a o h1 (fun p' z => by rw [h2] at z; unfold sow at z; injection z with z _; exact hi z), rfl⟩) q⟩
      | ref q => exact z
      | pin d k => obtain ⟨v, e, e', q⟩ := z; exact ⟨v, e, e', q.stepN sN⟩
  · obtain ⟨v, e2, q⟩ := R.st i o e
    exact ⟨v, e2, IsO.keepN sN (fun a o p h1 h2 => ⟨hk a o h1 (fun p' z => by rw [h2] at z; unfold cow at z; cases z), rfl⟩) q⟩
theorem i_apa {j k : Nat} {d : D} {vd : V} (hd : ∀ w H, Is c w H vd d) : ∀ Dd σ H, tS c (apaM j k d) Dd σ H → tDrop (tBM c.K "list" rAppend (tOp (rIx c.K) (tVar j) (tC (.int k))) (tCons (tC vd) tNil)) Dd σ H := fun Dd σ H ⟨w, rs, s, fl, s', R, e, kq⟩ => by
  unfold apaM at e
  split at e
  · rename_i os ej
    split at e
    · rename_i ds eo
      split at e
      · rename_i hz
        cases e
        obtain ⟨x, hv, v, rfl, q⟩ := R.at ej
        cases q with
        | nl h1 h2 r =>
          rename_i a vs
          obtain ⟨u, e1, qu⟩ := r.get eo
          cases qu with
          | fl g1 g2 g3 =>
            rename_i b us
            have hkv : k < vs.length := (List.getElem?_eq_some_iff.mp e1).1
            have hat : atI vs (k : Int) = some (.ref b) := by
              have : ixN vs.length (k : Int) = some k := by
                unfold ixN
                rw [if_pos (by omega), if_pos (by omega)]
                simp
              unfold atI
              rw [this]
              exact e1
            refine ⟨_, hv, .inl ⟨_, _, _, _, rfl, rfl, .of h2, hat, tyV_ref g2, ?_⟩⟩
            have wb : w b = sow j ((0 + k) :: []) := g1
            refine ⟨b, us, vd, rfl, rfl, g2, by rw [g3.length]; exact hz, ?_⟩
            have hk' : ∀ a o, H a = some o → a ≠ b → (upd H b (.lst (us ++ [vd]))) a = some o := fun a o h ne => by rw [upd_ne ne]; exact h
            have sN : StepN w H w (upd H b (.lst (us ++ [vd]))) := fun a o h kk => ⟨hk' a o h (fun z => by rw [z, wb] at kk; cases kk), kk⟩
            have ne : a ≠ b := fun z => by
              rw [z] at h1
              rw [wb] at h1
              unfold sow at h1
              injection h1 with _ h1
              cases h1
            have q' : IsO c w (upd H b (.lst (us ++ [vd]))) (sow j) (.ref a) (.nl (os.set k (.fl (ds ++ [d])))) := by
              refine .nl h1 (by rw [upd_ne ne]; exact h2) ?_
              refine IsOs.put (b := b) (p0 := []) (fun p q z => by unfold sow at z; injection z) sN hk' wb r e1 (.fl wb upd_same ?_)
              exact (g3.append (.cons (hd _ _) .nil)).stepN sN
            obtain ⟨R', st'⟩ := R.own (H' := upd H b (.lst (us ++ [vd]))) (List.getElem?_eq_some_iff.mp ej).1 hv (fun a o h hn => hk' a o h (fun z => hn [0 + k] (z ▸ wb))) q'
            exact kq σ _ w R' st'
      · cases e
    · cases e
  · cases e
theorem PendOk.items {w w0 : Wm} {H H0 : Hp} {as : List Addr} {v : V} {x : Slot} {os : List OD} (n : Nat) (h : PendOk c w H w0 H0 as v x) (e : slotsO [x] = some os) :
    ∃ ls, as = ls.map (·.1) ∧ OwnPs c w H n ls [v] os ∧ as.Nodup ∧ (∀ a ∈ as, w a = .out ∧ Fresh w0 H0 a) := by
  have z : Pends c w H w0 H0 (as ++ []) [v] [x] := .cons h (fun p _ hq => by cases hq) .nil
  obtain ⟨ls, t1, t2, t3, t4, _⟩ := z.owns n e
  rw [List.append_nil] at t1 t3 t4
  exact ⟨ls, t1, t2, t3, t4⟩
theorem i_apo {j : Nat} {m : M Slot} : ∀ Dd σ H, tS c (bnd (isNl j) fun _ => bnd m fun x => apoM j x) Dd σ H → tDrop (tBM c.K "list" rAppend (tVar j) (tCons (tO c m) tNil)) Dd σ H := fun Dd σ H ⟨w, rs, s, fl, s', R, e, kq⟩ => by
  obtain ⟨u0, s0, e0, e⟩ := bnd_some.mp e
  obtain ⟨x, s1, e1, e2⟩ := bnd_some.mp e
  unfold isNl at e0
  split at e0
  · rename_i os0 ej0
    cases e0
    obtain ⟨y0, hv, v, rfl, q0⟩ := R.at ej0
    cases q0 with
    | nl h1 h2 r0 =>
      rename_i a vs0
      refine ⟨_, hv, tyV_ref h2, w, rs, s, x, s1, R, e1, fun vx as H1 w1 R1 px st1 => ?_⟩
      unfold apoM at e2
      split at e2
      · rename_i os ej
        split at e2
        · rename_i os' eo
          split at e2
          · rename_i hz
            cases e2
            obtain ⟨y1, hv1, v1, rfl, q1⟩ := R1.at ej
            rw [hv] at hv1
            cases hv1
            cases q1 with
            | nl g1 g2 r =>
              rename_i vs
              obtain ⟨ls, t1, t2, t3, t4⟩ := px.items os.length eo
              subst t1
              refine ⟨a, vs, vx, rfl, rfl, g2, by rw [r.length]; exact hz, ?_⟩
              have ho : ∀ b ∈ ls.map (·.1), w1 b = .out := fun b hb => (t4 b hb).1
              have na : a ∉ ls.map (·.1) := fun z => by have := ho a z; rw [g1] at this; cases this
              have sN1 := wown_n (w := w1) (k := sow j) (ls := ls) (H := H1) ho
              have R2 := R1.wown (k := sow j) ho
              have items : IsOs c (Dm.wown w1 (sow j) ls) H1 (sow j) os.length [vx] os' := OwnPs.labK sN1 (wown_at t3) t2
              have keep : IsOs c (Dm.wown w1 (sow j) ls) H1 (sow j) 0 vs os := IsOs.keepN sN1 (fun b o p h2' k2 => ⟨h2', wown_out ho b (by rw [k2]; unfold sow; intro z; cases z)⟩) r
              have all := keep.snoc (by rw [Nat.zero_add]; exact items)
              have wa : Dm.wown w1 (sow j) ls a = sow j [] := (wown_ne na).trans g1
              have hk' : ∀ b o, H1 b = some o → b ≠ a → (upd H1 a (.lst (vs ++ [vx]))) b = some o := fun b o hb ne => by rw [upd_ne ne]; exact hb
              have sN2 : StepN (Dm.wown w1 (sow j) ls) H1 (Dm.wown w1 (sow j) ls) (upd H1 a (.lst (vs ++ [vx]))) := fun b o hb kk => ⟨hk' b o hb (fun z => by rw [z, wa] at kk; cases kk), kk⟩
              have q' : IsO c (Dm.wown w1 (sow j) ls) (upd H1 a (.lst (vs ++ [vx]))) (sow j) (.ref a) (.nl (os ++ os')) := by
                refine .nl wa upd_same ?_
                have away : ∀ {m : Nat} {vs : List V} {os : List OD}, IsOs c (Dm.wown w1 (sow j) ls) H1 (sow j) m vs os → IsOs c (Dm.wown w1 (sow j) ls) (upd H1 a (.lst (vs0 ++ [vx]))) (sow j) m vs os → True := fun _ _ => trivial
                have mv : ∀ {m : Nat} {vs' : List V} {os : List OD}, IsOs c (Dm.wown w1 (sow j) ls) H1 (sow j) m vs' os → IsOs c (Dm.wown w1 (sow j) ls) (upd H1 a (.lst (vs ++ [vx]))) (sow j) m vs' os := by
                  intro m vs' os r
                  induction os generalizing m vs' with
                  | nil => cases r; exact .nil
                  | cons o os ih =>
                    cases r with
                    | cons h r =>
                      refine .cons (h.away sN2 (fun p z => ?_) hk') (ih r)
                      rw [wa] at z
                      unfold sow at z
                      injection z with _ z
                      cases z
                exact mv all
              obtain ⟨R3, st3⟩ := R2.own (H' := upd H1 a (.lst (vs ++ [vx]))) (List.getElem?_eq_some_iff.mp ej).1 hv (fun b o hb hn => hk' b o hb (fun z => hn [] (z ▸ wa))) q'
              refine kq σ _ _ R3 fun b o hb kk => ?_
              obtain ⟨z1, z2⟩ := st1 b o hb kk
              have nb : b ∉ ls.map (·.1) := fun z => (t4 b z).2 b o hb kk rfl
              have z3 : Dm.wown w1 (sow j) ls b = w b := (wown_ne nb).trans z2
              obtain ⟨y1, y2⟩ := st3 b o z1 (by rw [z3]; exact kk)
              exact ⟨y1, y2.trans z3⟩
          · cases e2
        · cases e2
      · cases e2
  · cases e0
end
end Dm

/-! The D machine: what is nobody's for a while is owned again. -/
namespace Dm
open PySem L2 PyProof.Rows
section
variable {X : Cx} {c : Cc} {Γ : Env} {tb : Tb} {n : Nat} {st : Stmt} {sts : List Stmt} {e : Expr} {w : Wm} {rs : List V} {s : St} {σ : L2.St} {H : Hp}
section
variable {w0 w2 : Wm} {H0 H2 : Hp} {j : Nat}
theorem keep_n (st : Step (wfree w0 j) H0 w2 H2) : StepN w0 H0 (wkeep w0 w2 H0 j) H2 := fun b o hb kb => by
  have z : wfree w0 j b = .no := by unfold wfree; rw [kb]
  obtain ⟨z1, z2⟩ := st b o hb (.inl z)
  refine ⟨z1, ?_⟩
  rw [wkeep_ne (fun p o e1 _ => by rw [kb] at e1; cases e1), z2, z]
theorem keep_o (st : Step (wfree w0 j) H0 w2 H2) : ∀ b o, H0 b = some o → w0 b = .out → H2 b = some o ∧ wkeep w0 w2 H0 j b = .out := fun b o hb kb => by
  have z : wfree w0 j b = .out := by unfold wfree; rw [kb]
  obtain ⟨z1, z2⟩ := st b o hb (.inr z)
  refine ⟨z1, ?_⟩
  rw [wkeep_ne (fun p o e1 _ => by rw [kb] at e1; cases e1), z2, z]
theorem keep_s (st : Step (wfree w0 j) H0 w2 H2) : ∀ b o p, H0 b = some o → w0 b = sow j p → H2 b = some o ∧ wkeep w0 w2 H0 j b = w0 b := fun b o p hb kb => by
  obtain ⟨z1, z2⟩ := st b o hb (.inl (wfree_own kb))
  exact ⟨z1, by rw [kb]; exact wkeep_own kb hb⟩
theorem keep_st (st : Step (wfree w0 j) H0 w2 H2) : Step w0 H0 (wkeep w0 w2 H0 j) H2 := fun b o hb kb => by
  rcases kb with kb | kb
  · obtain ⟨x1, x2⟩ := keep_n st b o hb kb
    exact ⟨x1, x2.trans kb.symm⟩
  · obtain ⟨x1, x2⟩ := keep_o st b o hb kb
    exact ⟨x1, x2.trans kb.symm⟩
theorem keep_c (st : Step (wfree w0 j) H0 w2 H2) {i : Nat} {o : OD} {u : V} (hf : o.flat = true) (q : IsO c w2 H2 (cow i) u o) : IsO c (wkeep w0 w2 H0 j) H2 (cow i) u o := by
  cases q with
  | fl f1 f2 f3 =>
    rename_i ca cvs cds
    have nl : ∀ p o, w0 ca = .slot j p → H0 ca = some o → False := fun p o e1 e2 => by
      have z := (st ca o e2 (.inl (wfree_own e1))).2
      rw [f1, wfree_own e1] at z
      cases z
    exact .fl ((wkeep_ne nl).trans f1) f2 (f3.atoms hf)
  | _ => simp [OD.flat] at hf
theorem Is.atomD {w w' : Wm} {H H' : Hp} {v : V} {d : D} (h : d.atom = true) (q : Is c w H v d) : Is c w' H' v d := by
  cases q <;> first | exact .non | exact .bl _ | exact .int _ | exact .str _ | (simp [D.atom] at h)
end
/-- owned again -/
theorem Rel.reown {w2 : Wm} {H2 : Hp} {s2 : St} {σ2 : L2.St} {j : Nat} {o : OD} (R : Rel c w rs s σ H) (ej : s.L[j]? = some (.own o)) (hno : (s.L.set j .no).all Slot.notOwn = true) (st : Step (wfree w j) H w2 H2) (R2 : Rel c w2 rs s2 σ2 H2) (hfl : s2.S.all OD.flat = true) :
    Rel c (wkeep w w2 H j) rs ⟨s.L, s2.S⟩ σ H2 := by
  refine ⟨R.len, fun i y x e1 e2 => ?_, fun i o ei => ?_⟩
  · have z := R.sl i y x e1 e2
    by_cases hi : i = j
    · subst hi
      have e1 : s.L[i]? = some y := e1
      rw [ej] at e1
      cases e1
      obtain ⟨v, e, q⟩ := z
      exact ⟨v, e, IsO.keepN (keep_n st) (fun a o p h1 h2 => keep_s st a o p h1 h2) q⟩
    · cases y with
      | no => trivial
      | val d => obtain ⟨v, e, q⟩ := z; exact ⟨v, e, q.stepN (keep_n st)⟩
      | own o =>
        have hm : Slot.own o ∈ s.L.set j .no := by
          refine List.mem_of_getElem? (i := i) ?_
          rw [List.getElem?_set_ne (Ne.symm hi)]
          exact e1
        have := List.all_eq_true.mp hno _ hm
        simp [Slot.notOwn] at this
      | ref q => exact z
      | pin d k => obtain ⟨v, e, e', q⟩ := z; exact ⟨v, e, e', q.stepN (keep_n st)⟩
  · obtain ⟨u, e3, q⟩ := R2.st i o ei
    exact ⟨u, e3, keep_c st (List.all_eq_true.mp hfl o (List.mem_of_getElem? ei)) q⟩
theorem i_exr {j : Nat} {m : M D} : ∀ Dd σ H, tS c (exrM j m) Dd σ H → tDrop (tBM c.K "list" (fun x vs H Q => rExtend x vs H Q ∨ rExtT x vs H Q) (tVar j) (tCons (tE c m) tNil)) Dd σ H := fun Dd σ H ⟨w, rs, s, fl, s', R, e, kq⟩ => by
  unfold exrM at e
  split at e
  · rename_i ds ej
    split at e
    · rename_i hno
      split at e
      · rename_i es s2 e1
        split at e
        · rename_i hc
          cases e
          obtain ⟨vx, hvx, R1, q1⟩ := R.free ej
          obtain ⟨x, hx, vx', rfl, qo⟩ := R.at ej
          rw [hvx] at hx; cases hx
          cases qo with
          | fl g1 g2 g3 =>
            rename_i a vs
            rw [OD.toD] at R1
            refine ⟨_, hvx, tyV_ref g2, wfree w j, rs, _, _, s2, R1, e1, fun v2 H2 w2 R2 p2 st2 => ?_⟩
            cases p2 with
            | lst h r =>
              rename_i b zs
              have c1 := st2 a _ g2 (.inl (wfree_own g1))
              refine .inl ⟨a, b, vs, zs, rfl, rfl, c1.1, h.2, by rw [g3.length, r.length]; exact hc.2.2, ?_⟩
              have R3 := R.reown ej hno st2 R2 hc.2.1
              have wa : wkeep w w2 H j a = sow j [] := wkeep_own g1 g2
              have sN : StepN (wkeep w w2 H j) H2 (wkeep w w2 H j) (upd H2 a (.lst (vs ++ zs))) := fun b o hb kb => ⟨by rw [upd_ne (fun z => by rw [z, wa] at kb; cases kb)]; exact hb, kb⟩
              have q' : IsO c (wkeep w w2 H j) (upd H2 a (.lst (vs ++ zs))) (sow j) (.ref a) (.fl (ds ++ es)) := .fl wa upd_same (((g3.stepN (keep_n st2)).stepN sN).append (r.atoms hc.1))
              obtain ⟨R4, st4⟩ := R3.own (List.getElem?_eq_some_iff.mp ej).1 hvx (H' := upd H2 a (.lst (vs ++ zs))) (fun b o hb hn => by rw [upd_ne (fun z => by subst z; exact hn [] wa)]; exact hb) q'
              exact kq σ _ _ R4 ((keep_st st2).trans st4)
        · cases e
      · cases e
    · cases e
  · cases e
/-! ### the block -/
theorem pin_ok (R : Rel c w rs s σ H) : ∀ {P : List Nat} {n : Nat} {L' : List Slot} {ds : List D}, pinL s.L n P = some (L', ds) →
    ∃ vals, IsAll c w H vals ds ∧ L'.length = s.L.length ∧ ∀ (i : Nat) (y : Slot), L'[i]? = some y → s.L[i]? = some y ∨ ∃ m d v, y = Slot.pin d (n + m) ∧ vals[m]? = some v ∧ σ[i]? = some (some v) ∧ Is c w H v d
  | [], n, L', ds, e => by
    rw [pinL] at e
    cases e
    exact ⟨[], .nil, rfl, fun i y e => .inl e⟩
  | i :: P, n, L', ds, e => by
    rw [pinL] at e
    split at e
    · rename_i d L1 ds1 e1 e2
      cases e
      obtain ⟨vals, h1, h2, h3⟩ := pin_ok R e2
      obtain ⟨v, hv, q⟩ := R.val e1
      refine ⟨v :: vals, .cons q h1, by rw [List.length_set]; exact h2, fun k y ek => ?_⟩
      by_cases hk : k = i
      · subst hk
        have hlt : k < L1.length := by rw [h2]; exact (List.getElem?_eq_some_iff.mp e1).1
        rw [List.getElem?_set_self hlt] at ek
        cases ek
        exact .inr ⟨0, d, v, rfl, rfl, hv, q⟩
      · rw [List.getElem?_set_ne (Ne.symm hk)] at ek
        rcases h3 k y ek with z | ⟨m, d', v', z1, z2, z3, z4⟩
        · exact .inl z
        · exact .inr ⟨m + 1, d', v', by rw [z1]; congr 1; omega, by simpa using z2, z3, z4⟩
    · cases e
theorem cells_le (R : Rel c w rs s σ H) : s.S.length ≤ rs.length := by
  cases hS : s.S.length with
  | zero => exact Nat.zero_le _
  | succ k =>
    have hk : k < s.S.length := by omega
    obtain ⟨v, e, _⟩ := R.st k s.S[k] (by simp [hk])
    exact (List.getElem?_eq_some_iff.mp e).1
theorem drop_plain {n : Nat} (y : Slot) : (dropS n y).plainS n = true := by
  cases y with
  | ref j =>
    show Slot.plainS n (if j < n then Slot.ref j else Slot.no) = true
    by_cases h : j < n
    · rw [if_pos h]; simp [Slot.plainS, h]
    · rw [if_neg h]; rfl
  | _ => rfl
theorem drop_rel (R : Rel c w rs s σ H) (n : Nat) : Rel c w rs ⟨s.L.map (dropS n), s.S⟩ σ H := by
  refine ⟨by simpa using R.len, fun i y x e1 e2 => ?_, R.st⟩
  simp only [List.getElem?_map] at e1
  obtain ⟨z, ez, rfl⟩ := Option.map_eq_some_iff.mp e1
  have q := R.sl i z x ez e2
  cases z with
  | val d => exact q
  | ref j =>
    show SlotOk c w rs H i x (if j < n then Slot.ref j else Slot.no)
    by_cases h : j < n
    · rw [if_pos h]; exact q
    · rw [if_neg h]; trivial
  | _ => trivial
theorem i_blk {j : Nat} {P : List Nat} {mb mr : M Fl} : ∀ Dd σ H, tS c (blkM j P mb mr) Dd σ H → tSeq (tS c mb) (tS c mr) Dd σ H := fun Dd σ H ⟨w, rs, s, fl, s', R, e, kq⟩ => by
  unfold blkM at e
  split at e
  · rename_i o ej
    split at e
    · rename_i L' ds ep
      obtain ⟨vx, hvx, R1, q1⟩ := R.free ej
      obtain ⟨x, hx, vx', rfl, qo⟩ := R.at ej
      rw [hvx] at hx; cases hx
      have R0 := drop_rel R s.S.length
      obtain ⟨vals, ha, hl', hp⟩ := pin_ok R0 ep
      have hl : L'.length = s.L.length := by rw [hl']; exact List.length_map _
      have hl0 := cells_le R
      obtain ⟨rs', r1, r2, r3⟩ : ∃ rs' : List V, (∀ k, k < s.S.length → rs'[k]? = rs[k]?) ∧ rs'[s.S.length]? = some vx ∧ ∀ k, rs'[s.S.length + 1 + k]? = vals[k]? := by
        refine ⟨rs.take s.S.length ++ vx :: vals, fun k hk => ?_, ?_, fun k => ?_⟩
        · rw [List.getElem?_append_left (by rw [List.length_take]; omega), List.getElem?_take]
          simp [hk]
        · rw [List.getElem?_append_right (by rw [List.length_take]; omega), List.length_take, Nat.min_eq_left hl0]
          simp
        · rw [List.getElem?_append_right (by rw [List.length_take]; omega), List.length_take, Nat.min_eq_left hl0]
          have : s.S.length + 1 + k - s.S.length = k + 1 := by omega
          rw [this]
          simp
      have R' : Rel c (wfree w j) rs' ⟨L'.set j (.pin o.toD s.S.length), s.S⟩ σ H := by
        refine ⟨by simp only [List.length_set]; rw [hl]; exact R.len, fun i y x e1 e2 => ?_, fun i o' ei => ?_⟩
        · have hjl : j < L'.length := by rw [hl]; exact (List.getElem?_eq_some_iff.mp ej).1
          by_cases hi : i = j
          · subst hi
            simp only [List.getElem?_set_self hjl] at e1
            cases e1
            rw [hvx] at e2; cases e2
            exact ⟨vx, rfl, r2, q1⟩
          · simp only [List.getElem?_set_ne (Ne.symm hi)] at e1
            rcases hp i y e1 with z | ⟨m, d, v, rfl, z2, z3, z4⟩
            · have q := R0.sl i y x z e2
              have pl : y.plainS s.S.length = true := by
                simp only [List.getElem?_map] at z
                obtain ⟨z0, _, rfl⟩ := Option.map_eq_some_iff.mp z
                exact drop_plain z0
              cases y with
              | no => trivial
              | val d => obtain ⟨v, e, q⟩ := q; exact ⟨v, e, q.step (Step.free j)⟩
              | own o => simp [Slot.plainS] at pl
              | ref k =>
                obtain ⟨v, e, q⟩ := q
                exact ⟨v, e, by rw [r1 k (by simpa [Slot.plainS] using pl)]; exact q⟩
              | pin d k => simp [Slot.plainS] at pl
            · rw [z3] at e2; cases e2
              exact ⟨v, rfl, by rw [r3]; exact z2, z4.step (Step.free j)⟩
        · obtain ⟨v, e1, q⟩ := R1.st i o' ei
          exact ⟨v, by rw [r1 i (List.getElem?_eq_some_iff.mp ei).1]; exact e1, q⟩
      split at e
      · rename_i s2 eb
        split at e
        · rename_i hc
          refine ⟨wfree w j, rs', _, .nx, s2, R', eb, fun σ2 H2 w2 R2 st2 => ?_⟩
          refine ⟨wkeep w w2 H j, rs, _, fl, s', ⟨by simpa using R2.len, fun i y x e1 e2 => ?_, fun i o' ei => ?_⟩, e, fun σ3 H3 w3 R3 st3 => kq σ3 H3 w3 R3 ((keep_st st2).trans st3)⟩
          · by_cases hi : i = j
            · subst hi
              have hpin := hc.2.2
              cases ez : s2.L[i]? with
              | none => rw [ez] at hpin; simp [isPin] at hpin
              | some z =>
                rw [ez] at hpin
                cases z with
                | pin d m =>
                  have hm : m = s.S.length := by simpa [isPin] using hpin
                  subst hm
                  obtain ⟨x', hx', v, rfl, hv, _⟩ := R2.at ez
                  rw [r2] at hv
                  cases hv
                  rw [hx'] at e2
                  cases e2
                  have hlt : i < (s2.L.map (endS (s.S.length + 1) ds)).length := by rw [List.length_map]; exact (List.getElem?_eq_some_iff.mp ez).1
                  simp only [List.getElem?_set_self hlt] at e1
                  cases e1
                  exact ⟨_, rfl, IsO.keepN (keep_n st2) (fun a o p h1 h2 => keep_s st2 a o p h1 h2) qo⟩
                | _ => simp [isPin] at hpin
            · simp only [List.getElem?_set_ne (Ne.symm hi), List.getElem?_map] at e1
              obtain ⟨z, ez, rfl⟩ := Option.map_eq_some_iff.mp e1
              have q := R2.sl i z x ez e2
              cases z with
              | no => trivial
              | own o => trivial
              | val d =>
                rw [endS]
                split
                · rename_i hat
                  obtain ⟨v, e, q⟩ := q
                  exact ⟨v, e, q.atomD hat⟩
                · trivial
              | ref k =>
                rw [endS]
                split
                · rename_i hk
                  obtain ⟨v, e, q⟩ := q
                  exact ⟨v, e, by rw [← r1 k (by omega)]; exact q⟩
                · trivial
              | pin d m =>
                rw [endS]
                split
                · trivial
                · rename_i hm
                  obtain ⟨v, e, hv, _⟩ := q
                  have em : m = s.S.length + 1 + (m - (s.S.length + 1)) := by omega
                  rw [em, r3] at hv
                  obtain ⟨d', hd', q'⟩ := ha.get' hv
                  rw [hd']
                  exact ⟨v, e, q'.stepN (keep_n st2)⟩
          · obtain ⟨u, e1, q⟩ := R2.st i o' ei
            have hi : i < s.S.length := Nat.lt_of_lt_of_le (List.getElem?_eq_some_iff.mp ei).1 hc.2.1
            rw [r1 i hi] at e1
            exact ⟨u, e1, keep_c st2 (List.all_eq_true.mp hc.1 o' (List.mem_of_getElem? ei)) q⟩
        · cases e
      · rename_i r s2 eb
        cases e
        refine ⟨wfree w j, rs', _, .rt r, s2, R', eb, fun σ2 H2 w2 R2 st2 => ?_⟩
        refine kq σ2 H2 w2 ⟨by simpa using R2.len, fun i y x e1 e2 => ?_, fun i o' ei => ?_⟩ ((Step.free j).trans st2)
        · simp only [List.getElem?_map] at e1
          obtain ⟨z, ez, rfl⟩ := Option.map_eq_some_iff.mp e1
          trivial
        · simp only [List.getElem?_take] at ei
          split at ei
          · rename_i hi
            obtain ⟨u, e1, q⟩ := R2.st i o' ei
            rw [r1 i hi] at e1
            exact ⟨u, e1, q⟩
          · cases ei
      · cases e
    · cases e
  · obtain ⟨f1, s1, e1, e2⟩ := bnd_some.mp e
    refine ⟨w, rs, s, f1, s1, R, e1, fun σ1 H1 w1 R1 st1 => ?_⟩
    cases f1 with
    | nx => exact ⟨w1, rs, s1, fl, s', R1, e2, fun σ2 H2 w2 R2 st2 => kq σ2 H2 w2 R2 (st1.trans st2)⟩
    | bk => cases ret_some.mp e2; exact kq σ1 H1 w1 R1 st1
    | ct => cases ret_some.mp e2; exact kq σ1 H1 w1 R1 st1
    | rt o => cases ret_some.mp e2; exact kq σ1 H1 w1 R1 st1
/-! ### what was told is spoilt -/
theorem i_spl {j m : Nat} : ∀ Dd σ H, tS c (splM j m) Dd σ H → tFor (iSeq c.K (tOrT c.K (tVar j) (tTup tNil))) (gName m) (tIfS (tB (tCB (rIsi c.K) (tCons (tVar m) (tCons (tC (.ty "list")) tNil)))) (tDrop (tBM c.K "list" rAppend (tVar m) (tCons (tC .non) tNil))) tNext) Dd σ H := fun Dd σ H ⟨w, rs, s, fl, s', R, e, kq⟩ => by
  unfold splM at e
  split at e
  · rename_i ej
    cases e
    obtain ⟨v, hv, q⟩ := R.val ej
    cases q
    refine ⟨.non, hv, false, rfl, ?_⟩
    rw [if_neg (by decide)]
    refine ⟨Nat.zero_le _, fun p hp => .inr ⟨p, rfl, ⟨[], .of upd_same⟩, ?_⟩⟩
    refine ⟨fun i k σ' H' => σ' = σ ∧ H' = upd H p (.tup []), ⟨0, rfl, rfl⟩, fun i k σ' H' ⟨z1, z2⟩ => ?_⟩
    subst z1 z2
    exact .inl ⟨⟨[], .of upd_same, Nat.zero_le _⟩, kq _ _ _ (R.new hp) (Step.new hp)⟩
  · rename_i os ej
    split at e
    · rename_i hc
      cases e
      obtain ⟨x, hv, v, rfl, qo⟩ := R.at ej
      cases qo with
      | nt h1 h2 r =>
        rename_i a vs
        have hlen : vs.length = os.length := r.length
        have hne : (!vs.isEmpty) = true := by
          cases vs with
          | nil => rw [List.length_nil] at hlen; exact (hc.2.1 (List.length_eq_zero_iff.mp hlen.symm)).elim
          | cons => rfl
        refine ⟨_, hv, true, .inr (.inl ⟨vs, .of h2, hne.symm⟩), ?_⟩
        rw [if_pos rfl]
        refine .inr ⟨a, rfl, ⟨vs, .of h2⟩, ?_⟩
        let W : Nat → Nat → L2.St → Hp → Prop := fun i k σ' H' => k = vs.length - i ∧ i ≤ vs.length ∧ σ'.length = σ.length ∧ (∀ q, q ≠ m → σ'[q]? = σ[q]?) ∧ (∀ b o, H b = some o → (∀ p, w b ≠ .slot j p) → H' b = some o) ∧ H' a = some (.tup vs) ∧
          ∀ q v, vs[q]? = some v → ∃ b us, v = .ref b ∧ w b = sow j [q] ∧ H' b = some (.lst us) ∧ us.length + (vs.length - i) ≤ sizeLine
        refine ⟨W, ⟨vs.length, by omega, Nat.zero_le _, rfl, fun _ _ => rfl, fun b o hb _ => hb, h2, fun q v eq => ?_⟩, ?_⟩
        · have hq : q < os.length := by rw [← hlen]; exact (List.getElem?_eq_some_iff.mp eq).1
          have eo : os[q]? = some os[q] := by simp [hq]
          obtain ⟨u, e1, qu⟩ := r.get eo
          rw [eq] at e1
          cases e1
          have hs := List.all_eq_true.mp hc.1 _ (List.mem_of_getElem? eo)
          generalize os[q] = oq at qu hs
          cases qu with
          | fl g1 g2 g3 =>
            rename_i a' vs' ds'
            refine ⟨_, _, rfl, by simpa [sow] using g1, g2, ?_⟩
            have : ds'.length + os.length ≤ sizeLine := by simpa [splO] using hs
            rw [g3.length, hlen]
            exact this
          | _ => simp [splO] at hs
        · rintro i k σ' H' ⟨rfl, hi, hl, hσ, hH, ha, hit⟩
          by_cases hlt : i < vs.length
          · have eg : vs[i]? = some vs[i] := by simp [hlt]
            refine .inr ⟨⟨vs, vs[i], .of ha, eg⟩, W (i + 1) (vs.length - (i + 1)), fun σ2 H2 z => ⟨vs.length - (i + 1), by omega, z⟩, fun x H2 y => ?_⟩
            obtain ⟨y1, y2⟩ := y
            subst y1
            have e2 := y2 vs (.of ha)
            obtain ⟨b, us, rfl, wb, hb, hz⟩ := hit i x e2
            have hm : m < σ'.length := by rw [hl, ← R.len]; exact hc.2.2
            have hget : (σ'.set m (some (V.ref b)))[m]? = some (some (V.ref b)) := List.getElem?_set_self hm
            refine ⟨_, hget, ⟨.ref b, .ty "list", .type "list", .type "list", true, rfl, .ty _, .base (.lst hb), kit_ty (by decide +kernel), true, rfl, ?_⟩⟩
            dsimp only
            rw [if_pos rfl]
            refine ⟨_, hget, tyV_ref hb, ⟨b, us, .non, rfl, rfl, hb, by omega, ?_⟩⟩
            refine ⟨rfl, hlt, by rw [List.length_set]; exact hl, fun q hq => by rw [List.getElem?_set_ne (Ne.symm hq)]; exact hσ q hq, fun b' o hb' hn => ?_, ?_, fun q v eq => ?_⟩
            · rw [upd_ne (fun z => by subst z; exact hn _ wb)]
              exact hH b' o hb' hn
            · rw [upd_ne]
              · exact ha
              · intro z
                subst z
                rw [h1] at wb
                unfold sow at wb
                injection wb with _ wb
                cases wb
            · obtain ⟨b', us', rfl, wb', hb', hz'⟩ := hit q v eq
              by_cases hb2 : b' = b
              · subst hb2
                exact ⟨b', us ++ [.non], rfl, wb', upd_same, by rw [List.length_append]; simp only [List.length_cons, List.length_nil]; omega⟩
              · exact ⟨b', us', rfl, wb', by rw [upd_ne hb2]; exact hb', by omega⟩
          · refine .inl ⟨⟨vs, .of ha, by omega⟩, ?_⟩
            have sN : StepN w H w H' := fun a o h kk => ⟨hH a o h (fun p z => by rw [kk] at z; cases z), kk⟩
            refine kq σ' H' w ⟨by simp only [List.length_set]; rw [hl]; exact R.len, fun q y x e1 e2 => ?_, fun q o eq => ?_⟩ fun a o h kk => ⟨hH a o h (fun p z => by rw [z] at kk; rcases kk with z | z <;> cases z), rfl⟩
            · by_cases hq : q = m
              · subst hq
                simp only [List.getElem?_set_self (show q < (s.L.set j .no).length by rw [List.length_set]; exact hc.2.2)] at e1
                cases e1
                trivial
              · simp only [List.getElem?_set_ne (Ne.symm hq)] at e1
                by_cases hj : q = j
                · subst hj
                  simp only [List.getElem?_set_self (List.getElem?_eq_some_iff.mp ej).1] at e1
                  cases e1
                  trivial
                · simp only [List.getElem?_set_ne (Ne.symm hj)] at e1
                  rw [hσ q hq] at e2
                  have z := R.sl q y x e1 e2
                  cases y with
                  | no => trivial
                  | val d => obtain ⟨v, e, q⟩ := z; exact ⟨v, e, q.stepN sN⟩
                  | own o =>
                    obtain ⟨v, e, q⟩ := z
                    exact ⟨v, e, IsO.keepN sN (fun a o p h1 h2 => ⟨hH a o h1 (fun p' z => by rw [h2] at z; unfold sow at z; injection z with z _; exact hj z), rfl⟩) q⟩
                  | ref q => exact z
                  | pin d k => obtain ⟨v, e, e', q⟩ := z; exact ⟨v, e, e', q.stepN sN⟩
            · obtain ⟨v, e2, q⟩ := R.st q o eq
              exact ⟨v, e2, IsO.keepN sN (fun a o p h1 h2 => ⟨hH a o h1 (fun p' z => by rw [h2] at z; unfold cow at z; cases z), rfl⟩) q⟩
    · cases e
  · cases e
end
end Dm

/-! The D machine: stores to items and fields; all statements. -/
namespace Dm
open PySem L2 PyProof.Rows
section
variable {X : Cx} {c : Cc} {Γ : Env} {tb : Tb} {n : Nat} {st : Stmt} {sts : List Stmt} {e : Expr} {w : Wm} {rs : List V} {s : St} {σ : L2.St} {H : Hp}
def isNoneC : Const → Bool
  | .none => true
  | _ => false
theorem isNoneC_ok {k : Const} (h : isNoneC k = true) : k = .none := by
  cases k <;> simp [isNoneC] at h
  rfl
def notTup : E → Bool
  | .tup .. => false
  | _ => true
def okAsg (sc : Scope) (t v : Expr) : Bool :=
  match t, v with
  | .Tuple ts _ _, .Tuple vs _ _ => (match swS sc ts vs with | some none => true | _ => false)
  | _, _ => true
mutual
def okS (tb : Tb) (N : List Str) (sc : Scope) (fnb : Str → Bool) : T → Bool
  | .pass _ => true
  | .exp e _ => okE tb N sc e && !e.isComp
  | .set m e _ => okNm N sc fnb m && okOE tb N sc e && okSet sc m e
  | .asg t e _ => okT N sc fnb t && okE tb N sc e && (!e.isComp || isTp t) && okAsg sc t.py e.py
  | .par ns _ _ es _ _ _ => (ns.all fun m => okNm N sc fnb m) && (es.all fun e => okOE tb N sc e) && okPar sc ns es
  | .subnm j _ _ _ _ m _ _ e _ => okN N sc j.i j.x && okNm N sc fnb m && okE tb N sc e && !e.isComp && notTup e
  | .setI j i _ e _ => okN N sc j.i j.x && okE tb N sc i && okE tb N sc e && !e.isComp
  | .setF j _ _ _ e _ => okN N sc j.i j.x && okE tb N sc e && !e.isComp
  | .iff t a b _ => okE tb N sc t && t.noIfe && okSs tb N sc fnb a && okSs tb N sc fnb b
  | .whl t a _ => okE tb N sc t && t.noIfe && okSs tb N sc fnb a
  | .for t it a _ => okT N sc fnb t && okWk tb N sc (isTp t) it && okSs tb N sc fnb a
  | .ret e _ => okE tb N sc e
  | .retO e _ => okOE tb N sc e
  | .apo j p2 e p3 _ => okN N sc j.i j.x && (p2.endLine == p3.line) && okOE tb N sc e
  | .apa j _ _ _ _ p3 c _ _ p4 _ => okN N sc j.i j.x && (p3.endLine == p4.line) && isNoneC c
  | .setII j i _ i2 _ e _ => okN N sc j.i j.x && okE tb N sc i && okE tb N sc i2 && okE tb N sc e && !e.isComp
  | .spl j _ _ _ m _ _ _ _ _ q6 _ _ q7 _ _ _ => okN N sc j.i j.x && okNm N sc fnb m && okN N sc m.i m.x && glb sc "isinstance" && glb sc "list" && (q6.endLine == q7.line)
  | .exr j p2 e p3 _ => okN N sc j.i j.x && (p2.endLine == p3.line) && okE tb N sc e
  | .bad _ => true
def okSs (tb : Tb) (N : List Str) (sc : Scope) (fnb : Str → Bool) : Ts → Bool
  | .nil => true
  | .cons t ts => okS tb N sc fnb t && okSs tb N sc fnb ts
  | .blk _ _ a b => okSs tb N sc fnb a && okSs tb N sc fnb b
end
theorem okAsg_ok {t : Tg} {v : E} {k : Nat} {p : Pos} (h : okAsg X.env.scope t.py v.py = true) : swappedStores [t.py] v.py X.env = pure none := by
  unfold okAsg at h
  split at h
  · rename_i ts _ _ vs _ _ e1 e2
    rw [e1, e2]
    split at h
    · rename_i hs; exact sw_ok hs
    · cases h
  · rename_i hn
    cases t with
    | nm i x q =>
      rw [Tg.py]
      cases v <;> (rw [E.py]; rfl)
    | tp ts k q =>
      rw [Tg.py] at hn ⊢
      cases v <;> first
        | (rw [E.py]; rfl)
        | (rw [E.py] at hn; exact absurd rfl (hn _ _ _ _ _ _ rfl))
theorem notTup_ok {ts : List Expr} {k : Nat} {p : Pos} {v : E} (h : notTup v = true) : swappedStores [.Tuple ts k p] v.py X.env = pure none := by
  cases v <;> first | (rw [E.py]; rfl) | (simp [notTup] at h)
theorem E.noswapS {e : E} (h : e.isComp = false) (t : Expr) (l : Nat) (env : PySem.Env) : swapsWithSole [t] e.py l env = pure false := by
  show swapsWith e.py (some t) l env = pure false
  exact E.noswap h _ _ _
theorem E.assignSub (i : E) (o : Expr) (q : Pos) (env : PySem.Env) : ∀ v, assign (.Subscript o i.py q) env v = (do
      let ov ← holding [v] (eval o env)
      let iv ← holding [v, ov] (eval i.py env)
      standAt q
      holding [v, ov, iv] (setItem ov iv v)
      release [v, ov, iv] []) := by
  cases i <;> (rw [E.py]; intro v; rfl)
mutual
theorem sS : ∀ (t : T) {X : Cx}, Gd X c Γ tb n → (∀ q, (Γ.fn q).length ≤ 900) → X.xe = (fun _ _ => False) → okS tb X.N X.env.scope X.fn t = true → PS X t.py (tS c (exec Γ t))
  | .pass p, X, G, hb, hx, ok => by rw [T.py, exec]; exact s_pass
  | .exp e p, X, G, hb, hx, ok => by
    rw [okS] at ok
    simp only [Bool.and_eq_true, Bool.not_eq_true'] at ok
    rw [T.py, exec]
    exact s_exp (ps_expr (sE e G ok.1).1 (E.noswap ok.2 _ _ _))
  | .set m e p, X, G, hb, hx, ok => by
    rw [okS] at ok
    simp only [Bool.and_eq_true] at ok
    rw [T.py, exec]
    exact s_set G ok.1.1 ok.1.2 ok.2
  | .asg t e p, X, G, hb, hx, ok => by
    rw [okS] at ok
    simp only [Bool.and_eq_true, Bool.or_eq_true, Bool.not_eq_true'] at ok
    rw [T.py, exec]
    refine s_asg (ps_asg (sE e G ok.1.1.2).1 (sT G.nd G.calm t ok.1.1.1) ?_ (okAsg_ok (k := 0) (p := p) ok.2) ?_)
    · rcases ok.1.2 with z | z
      · exact E.noswap z _ _ _
      · cases t with
        | nm => simp [isTp] at z
        | tp ts k q => rw [Tg.py]; cases e <;> (rw [E.py]; rfl)
    · rw [Tg.eachCons]; rfl
  | .par ns kt pt es ke pe p, X, G, hb, hx, ok => by
    rw [okS] at ok
    simp only [Bool.and_eq_true] at ok
    rw [T.py, exec]
    exact s_par G ok.1.1 ok.1.2 ok.2
  | .subnm j k kk pk q m kt pt e p, X, G, hb, hx, ok => by
    rw [okS] at ok
    simp only [Bool.and_eq_true, Bool.not_eq_true'] at ok
    obtain ⟨⟨⟨⟨o1, o2⟩, o3⟩, o4⟩, o5⟩ := ok
    rw [T.py, exec]
    obtain ⟨k1, k2, k3⟩ := okNm_ok o2
    have ih := i_subnm (c := c) (j := j.i) (i := m.i) (kk := k) (m := den Γ e)
    rw [← G.K] at ih
    exact pimpS (ps_asg (sE e G o3).1 (pg_tup G.calm (pgs_cons (pg_sub (name_ok o1) pe_int set_list) (pgs_cons (pg_name G.nd k1 k2 k3) pgs_nil))) (E.noswapS o4 _ _ _) (notTup_ok o5) rfl) ih
  | .setI j i q e p, X, G, hb, hx, ok => by
    rw [okS] at ok
    simp only [Bool.and_eq_true, Bool.not_eq_true'] at ok
    rw [T.py, exec]
    exact pimpS (ps_asg (sE e G ok.1.2).1 (pg_sub (name_ok ok.1.1.1) (sE i G ok.1.1.2).1 set_list (i.assignSub _ _ _)) (E.noswapS ok.2 _ _ _) rfl rfl) i_setI
  | .setF j k f q e p, X, G, hb, hx, ok => by
    rw [okS] at ok
    simp only [Bool.and_eq_true, Bool.not_eq_true'] at ok
    rw [T.py, exec]
    have ih := i_setF (c := c) (Γ := Γ) G.fnm G.cls hb (j := j.i) (k := k) (f := f) (m := den Γ e)
    rw [← G.K] at ih
    exact pimpS (ps_fld (name_ok ok.1.1) (sE e G ok.1.2).1 (E.noswap ok.2 _ _ _)) ih
  | .iff t a b p, X, G, hb, hx, ok => by
    rw [okS] at ok
    simp only [Bool.and_eq_true] at ok
    rw [T.py, exec]
    exact s_if (ps_if ((sE t G ok.1.1.1).2 ok.1.1.2) (sSs a G hb hx ok.1.2) (sSs b G hb hx ok.2))
  | .whl t a p, X, G, hb, hx, ok => by
    rw [okS] at ok
    simp only [Bool.and_eq_true] at ok
    rw [T.py, exec]
    exact s_while (ps_while (by rw [hx]; exact PassesOwn.never) ((sE t G ok.1.1).2 ok.1.2) (sSs a G hb hx ok.2))
  | .for t it a p, X, G, hb, hx, ok => by
    rw [okS] at ok
    simp only [Bool.and_eq_true] at ok
    rw [T.py, exec]
    exact s_for (ps_for (by rw [hx]; exact PassesOwn.never) G.calm (sWk it G t ok.1.2) (sT G.nd G.calm t ok.1.1) (sSs a G hb hx ok.2) (it.nofold _))
  | .ret e p, X, G, hb, hx, ok => by
    rw [okS] at ok
    rw [T.py, exec]
    exact s_ret (ps_ret (sE e G ok).1)
  | .retO e p, X, G, hb, hx, ok => by
    rw [okS] at ok
    rw [T.py, exec]
    exact pimpS (ps_ret (sOE e G ok)) i_retO
  | .apo j p2 e p3 p, X, G, hb, hx, ok => by
    rw [okS] at ok
    simp only [Bool.and_eq_true] at ok
    rw [T.py, exec]
    have pa : PA X [e.e.py] (tCons (tO c (denOE Γ e)) tNil) := pa_cons (sOE e G ok.2) pa_nil (e.e.star _ _)
    have key := pe_bm (X := X) (apos := p2) (cpos := p3) PySem.F.plainAttrs_list PySem.F.slot_list_append PySem.F.type_list_append mt_append (name_ok (p := j.p) ok.1.1) pa rfl (by rw [e.e.star]; rfl) ok.1.2 (e.e.star _ _) rfl
    rw [G.K] at key
    exact pimpS (ps_expr key rfl) i_apo
  | .apa j k kk pk p2 p3 cc kc pc p4 p, X, G, hb, hx, ok => by
    rw [okS] at ok
    simp only [Bool.and_eq_true] at ok
    rw [T.py, exec]
    obtain ⟨ok1, ok2⟩ := ok
    obtain rfl : cc = .none := isNoneC_ok ok2
    have hix : IxR X (rIx c.K) := by rw [← G.K]; exact ix_seq
    have base : PE X (.Subscript j.py (.Constant (.int k) kk pk) p2) (tOp (rIx c.K) (tVar j.i) (tC (.int k))) := pe_ix hix (name_ok ok1.1) pe_int (by have z := (E.con (.int k) kk pk).plainIx; rw [E.py] at z; exact z)
    have pa : PA X [.Constant .none kc pc] (tCons (tC .non) tNil) := pa_cons pe_non pa_nil rfl
    have key := pe_bm (X := X) (apos := p3) (cpos := p4) PySem.F.plainAttrs_list PySem.F.slot_list_append PySem.F.type_list_append mt_append base pa rfl rfl ok1.2 rfl rfl
    rw [G.K] at key
    exact pimpS (ps_expr key rfl) fun Dd σ H z => i_apa (d := .non) (fun _ _ => .non) Dd σ H z
  | .setII j i q1 i2 q2 e p, X, G, hb, hx, ok => by
    rw [okS] at ok
    simp only [Bool.and_eq_true, Bool.not_eq_true'] at ok
    obtain ⟨⟨⟨⟨o1, o2⟩, o3⟩, o4⟩, o5⟩ := ok
    rw [T.py, exec]
    have hix : IxR X (rIx c.K) := by rw [← G.K]; exact ix_seq
    exact pimpS (ps_asg (sE e G o4).1 (pg_sub (pe_ix hix (name_ok o1) (sE i G o2).1 i.plainIx) (sE i2 G o3).1 set_list (i2.assignSub _ _ _)) (E.noswapS o5 _ _ _) rfl rfl) i_setII
  | .spl j kt pt pb m q1 q2 q3 q4 q5 q6 kn qn q7 q8 q9 p, X, G, hb, hx, ok => by
    rw [okS] at ok
    simp only [Bool.and_eq_true] at ok
    obtain ⟨⟨⟨⟨⟨o1, o2⟩, o3⟩, o4⟩, o5⟩, o6⟩ := ok
    rw [T.py, exec]
    obtain ⟨k1, k2, k3⟩ := okNm_ok o2
    have pa : PA X [.Constant .none kn qn] (tCons (tC .non) tNil) := pa_cons pe_non pa_nil rfl
    have app := pe_bm (X := X) (apos := q6) (cpos := q7) PySem.F.plainAttrs_list PySem.F.slot_list_append PySem.F.type_list_append mt_append (name_ok (p := q5) o3) pa rfl rfl o6 rfl rfl
    rw [G.K] at app
    have isi := pe_isi (c := c) (p1 := q1) (p2 := q3) (p3 := q4) G.K (t := .list) (a := .var m.i m.x q2) (glb_ok o4) (G.blt _ (by decide +kernel)) (glb_ok o5) (G.blt _ (by decide +kernel)) (by rw [E.py]; exact name_ok o3)
    have seq := pi_seq (tg := m.py) (pe_orT (name_ok (p := j.p) o1) (pe_one (pe_tup (x1 := kt) (pos := pt) pa_nil)) (pos := pb))
    rw [G.K] at seq
    exact pimpS (ps_for (by rw [hx]; exact PassesOwn.never) G.calm seq (pg_name G.nd k1 k2 k3) (pss_one (ps_if (pt_val isi) (pss_one (ps_expr app rfl)) pss_nil))) i_spl
  | .exr j p2 e p3 p, X, G, hb, hx, ok => by
    rw [okS] at ok
    simp only [Bool.and_eq_true] at ok
    rw [T.py, exec]
    have pa : PA X [e.py] (tCons (tE c (den Γ e)) tNil) := pa_cons (sE e G ok.2).1 pa_nil (e.star _ _)
    have key := pe_bm (X := X) (apos := p2) (cpos := p3) PySem.F.plainAttrs_list PySem.F.slot_list_extend PySem.F.type_list_extend (MtM_or mt_extend mt_extT) (name_ok (p := j.p) ok.1.1) pa rfl (by rw [e.star]; rfl) ok.1.2 (e.star _ _) rfl
    rw [G.K] at key
    exact pimpS (ps_expr key rfl) i_exr
  | .bad st, X, G, hb, hx, ok => by
    rw [T.py, exec]
    exact s_bad
theorem sApp : ∀ (t : Ts) {X : Cx}, Gd X c Γ tb n → (∀ q, (Γ.fn q).length ≤ 900) → X.xe = (fun _ _ => False) → okSs tb X.N X.env.scope X.fn t = true → ∀ {b : List Stmt} {u : TS}, PSs X b u → PSs X (t.py ++ b) (tSeq (tS c (execs Γ t)) u)
  | .nil, X, G, hb, hx, ok, b, u, h => by
    rw [Ts.py, execs, List.nil_append]
    exact pimpSs h fun D σ H ⟨w, rs, s, fl, s', R, e, k⟩ => by
      cases ret_some.mp e
      exact k σ H w R (Step.refl _ _)
  | .cons t ts, X, G, hb, hx, ok, b, u, h => by
    rw [okSs, Bool.and_eq_true] at ok
    rw [Ts.py, execs, List.cons_append]
    refine pimpSs (pss_cons (sS t G hb hx ok.1) (sApp ts G hb hx ok.2 h)) fun D σ H ⟨w, rs, s, fl, s', R, e, k⟩ => ?_
    obtain ⟨f1, s1, e1, e2⟩ := bnd_some.mp e
    refine ⟨w, rs, s, f1, s1, R, e1, fun σ1 H1 w1 R1 st1 => ?_⟩
    cases f1 with
    | nx => exact ⟨w1, rs, s1, fl, s', R1, e2, fun σ2 H2 w2 R2 st2 => k σ2 H2 w2 R2 (st1.trans st2)⟩
    | bk => cases ret_some.mp e2; exact k σ1 H1 w1 R1 st1
    | ct => cases ret_some.mp e2; exact k σ1 H1 w1 R1 st1
    | rt o => cases ret_some.mp e2; exact k σ1 H1 w1 R1 st1
  | .blk j P a a', X, G, hb, hx, ok, b, u, h => by
    rw [okSs, Bool.and_eq_true] at ok
    rw [Ts.py, execs, List.append_assoc]
    exact pimpSs (sApp a G hb hx ok.1 (sApp a' G hb hx ok.2 h)) fun D σ H q => i_blk { D with nx := u D } σ H q
theorem sSs : ∀ (t : Ts) {X : Cx}, Gd X c Γ tb n → (∀ q, (Γ.fn q).length ≤ 900) → X.xe = (fun _ _ => False) → okSs tb X.N X.env.scope X.fn t = true → PSs X t.py (tS c (execs Γ t))
  | .nil, X, G, hb, hx, ok => by rw [Ts.py, execs]; exact s_nil
  | .cons t ts, X, G, hb, hx, ok => by
    rw [okSs, Bool.and_eq_true] at ok
    rw [Ts.py, execs]
    exact s_cons (sS t G hb hx ok.1) (sSs ts G hb hx ok.2)
  | .blk j P a a', X, G, hb, hx, ok => by
    rw [okSs, Bool.and_eq_true] at ok
    rw [Ts.py, execs]
    exact pimpSs (sApp a G hb hx ok.1 (sSs a' G hb hx ok.2)) i_blk
end
end
end Dm

/-! The D machine: whole programs. -/
namespace Dm
open PySem L2 PyProof.Rows

structure DI where
  x : Str
  qual : Str
  cls : Option Str
  pl : Bool
  ps : List Str
  N : List Str
  args : Arguments
  sc : Scope
  body : Ts
structure Pg where
  defs : List DI
  globs : List (Str × D)
  clss : List (Str × Nat × List Str)
  kws : List (Nat × List Str × List Nat)
  lens : List (Nat × Nat)
  eqs : List (Nat × Nat)
  inss : List (Nat × Str)
def Pg.tb (P : Pg) : Tb := ⟨P.globs.map (·.1), P.defs.map fun d => ⟨d.x, d.ps, d.pl⟩, P.clss.map fun q => (q.1, q.2.1), P.kws, P.lens, P.eqs, P.inss⟩
def Pg.fn (P : Pg) (k : Nat) : List Str := match P.clss[k]? with | some q => q.2.2 | none => []
def Pg.glob (P : Pg) (g : Nat) : Option D := match P.globs[g]? with | some q => some q.2 | none => none
def runDef (Γ : Env) (d : DI) (sl : List Slot) (S : List OD) : Option (OD × List OD) :=
  if sl.length = d.ps.length then
    match execs Γ d.body ⟨sl ++ List.replicate (d.N.length - d.ps.length) .no, S⟩ with
    | some (.rt o, s') => some (o, s'.S)
    | some (.nx, s') => some (.leaf .non, s'.S)
    | _ => none
  else none
def callN (P : Pg) (wf : Nat) : Nat → CallF
  | 0 => fun _ _ _ => none
  | n + 1 => fun f sl S => match P.defs[f]? with
    | some d => runDef ⟨callN P wf n, wf, P.glob, P.fn⟩ d sl S
    | none => none
def Pg.env (P : Pg) (wf n : Nat) : Env := ⟨callN P wf n, wf, P.glob, P.fn⟩
def okScope (d : DI) : Bool :=
  (match d.sc.kind with | .function => true | _ => false) && !d.sc.isCoroutine && !d.sc.isGenerator && decide d.N.Nodup && decide (d.N.take d.ps.length = d.ps) &&
    (d.ps.all fun x => decide (d.sc.names.lookup x = some .local) || decide (d.sc.names.lookup x = some .cell)) && (d.sc.names.all fun y => decide (y.2 ≠ .free)) && decide (d.ps.length ≤ d.N.length)
def Pg.ok (P : Pg) : Bool := (P.defs.all fun d => okScope d && okSs P.tb d.N d.sc (fun _ => true) d.body) && (P.clss.all fun q => decide (q.2.2.length ≤ 900) && decide q.2.2.Nodup)
theorem okScope_ok {d : DI} (h : okScope d = true) : FnScope d.N d.ps d.sc ∧ d.ps.length ≤ d.N.length := by
  unfold okScope at h
  simp only [Bool.and_eq_true, decide_eq_true_eq, Bool.not_eq_true', List.all_eq_true, Bool.or_eq_true] at h
  obtain ⟨⟨⟨⟨⟨⟨⟨h1, h2⟩, h3⟩, h4⟩, h5⟩, h6⟩, h7⟩, h8⟩ := h
  refine ⟨⟨?_, h2, h3, h4, h5, h6, h7⟩, h8⟩
  split at h1
  · assumption
  · cases h1
/-- what the top has left -/
structure Left (K : PySem.W.Frag) (mg : Str → Option Value) (P : Pg) (c : Cc) (fa : Nat → Addr) (fd : Nat → FuncData) : Prop where
  hK : c.K = K
  fnm : c.fn = P.fn
  defs : ∀ (f : Nat) (d : DI), P.defs[f]? = some d → FunD K d.x d.qual d.args d.body.py d.sc [] [] (fa f) (fd f) ∧ Binds K (fd f) d.ps []
  mgd : ∀ (f : Nat) (d : DI), P.defs[f]? = some d → d.pl = true → mg d.x = some (.ref (fa f)) ∧ PySem.W.keepIn K (.ref (fa f)) = true
  clss : ∀ (k : Nat) (x : Str) (f : Nat) (fs : List Str), P.clss[k]? = some (x, f, fs) → mg x = some (.ref (c.cl k)) ∧ Mk K (c.cl k) (fa f) ∧ Cls K (c.cl k) ∧ ∀ g ∈ fs, NoAttr K (c.cl k) g
  kbs : ∀ (f : Nat) (d : DI) (ks : List Str) (π : List Nat), P.defs[f]? = some d → (f, ks, π) ∈ P.kws → KBn K (fd f) d.ps 0 ks (fun _ ws => perm π ws) (fun _ zs => perm π zs)
  lens : ∀ k f, (k, f) ∈ P.lens → PySem.W.findIn K (.ref (c.cl k)) "__len__" = some (some (.ref (fa f))) ∧ PySem.W.isFn K (.ref (fa f)) = true
  eqs : ∀ k f, (k, f) ∈ P.eqs → PySem.W.findIn K (.ref (c.cl k)) "__eq__" = some (some (.ref (fa f))) ∧ PySem.W.isFn K (.ref (fa f)) = true
  inss : ∀ k x, (k, x) ∈ P.inss → mg x = some (.ref (c.cl k)) ∧ C8.InsC K (c.cl k)
  blt : ∀ x ∈ bltNames, mg x = none
  glob : ∀ (g : Nat) (x : Str) (d : D), P.globs[g]? = some (x, d) → ∃ u v, mg x = some u ∧ L2.RelV v u ∧ ∀ w H, Is c w H v d
section
variable {Pr : Program} {wd : World} {K : PySem.W.Frag} {mg : Str → Option Value} {base : Heap} {P : Pg} {c : Cc} {fa : Nat → Addr} {fd : Nat → FuncData} {wf : Nat}
theorem spD_len {n f : Nat} {call : CallF} {vs : List V} {H : Hp} {Q : VK} {E : XK} (h : spD c n call f vs H Q E) : vs.length = n := by
  obtain ⟨w, rs, S, sl, o, S', h1, h2, _⟩ := h
  rw [h2.length, h1]
theorem start_rel {N : List Str} {w : Wm} {rs : List V} {H : Hp} {vs : List V} {sl : List Slot} {S : List OD} (a : ArgsOk c w rs H vs sl) (cs : CellsOk c w rs S H) : Rel c w rs ⟨sl ++ List.replicate (N.length - sl.length) .no, S⟩ (L2.start N vs) H := by
  refine ⟨?_, fun i y x e1 e2 => ?_, cs⟩
  · unfold L2.start
    rw [List.length_append, List.length_append, List.length_replicate, List.length_replicate, List.length_map, a.length]
  · unfold L2.start at e2
    have hl := a.length
    by_cases hi : i < sl.length
    · have e1 : (sl ++ List.replicate (N.length - sl.length) Slot.no)[i]? = some y := e1
      rw [List.getElem?_append_left hi] at e1
      rw [List.getElem?_append_left (by rw [List.length_map, hl]; exact hi), List.getElem?_map] at e2
      have main : ∀ {vs : List V} {sl : List Slot}, ArgsOk c w rs H vs sl → ∀ {i : Nat} {y : Slot} {v : V}, sl[i]? = some y → vs[i]? = some v → ArgOk c w rs H v y := by
        intro vs sl h
        induction h with
        | nil => intro i y v e; simp at e
        | cons h _ ih =>
          intro i y v e1 e2
          cases i with
          | zero => simp at e1 e2; subst e1 e2; exact h
          | succ i => exact ih (by simpa using e1) (by simpa using e2)
      cases ev : vs[i]? with
      | none => rw [ev] at e2; cases e2
      | some v =>
        rw [ev] at e2
        cases e2
        have q := main a e1 ev
        cases y with
        | val d => exact ⟨v, rfl, q⟩
        | ref j => exact ⟨v, rfl, q⟩
        | no => trivial
        | own => exact q.elim
        | pin => exact q.elim
    · have e1 : (sl ++ List.replicate (N.length - sl.length) Slot.no)[i]? = some y := e1
      rw [List.getElem?_append_right (by omega)] at e1
      have := List.mem_of_getElem? e1
      rw [List.mem_replicate] at this
      rw [this.2]
      trivial
theorem all_ok (L : Left K mg P c fa fd) (ok : P.ok = true) : ∀ (n f : Nat) (d : DI), P.defs[f]? = some d → FnOk Pr wd K mg base L2.CX0 (2 * n) (fa f) (fd f) d.ps (spD c d.ps.length (callN P wf n) f)
  | 0, f, d, e => ⟨fun vs H Q E h => spD_len h, fun A outer s H args us vs Q E _ _ _ _ h => by
      obtain ⟨w, rs, S, sl, o, S', _, _, _, _, h5, _⟩ := h
      rw [callN] at h5; cases h5⟩
  | n + 1, f, d, e => by
    unfold Pg.ok at ok
    rw [Bool.and_eq_true, List.all_eq_true, List.all_eq_true] at ok
    have od := ok.1 d (List.mem_of_getElem? e)
    rw [Bool.and_eq_true] at od
    obtain ⟨sc, hpn⟩ := okScope_ok od.1
    have hcl : ∀ (k : Nat) (x : Str) (f : Nat) (fs : List Str), P.clss[k]? = some (x, f, fs) → fs.length ≤ 900 ∧ fs.Nodup := fun k x f fs h => by
      have := ok.2 _ (List.mem_of_getElem? h)
      simpa using this
    have okP : P.ok = true := by
      unfold Pg.ok
      rw [Bool.and_eq_true, List.all_eq_true, List.all_eq_true]
      exact ok
    refine (L.defs f d e).1.ok (k := 2 * n + 1) sc (fun vs H Q E h => spD_len h) (fun cdv A outer s H vs Q E hr h => ⟨tS c (execs (P.env wf n) d.body), PSs.nox ?_, ?_⟩)
    · -- the body
      refine sSs d.body (Γ := P.env wf n) (tb := P.tb) (n := n) ⟨L.hK.symm, sc.nd, rfl, hr, L.fnm, fun q hq => ?_, L.blt, fun g x dd h1 h2 => ?_, fun f' fi h1 h2 => ?_, fun k f' fi h1 h2 => ?_, fun k f' fi h1 h2 => ?_, L.inss, fun k x f' fi h1 h2 => ?_⟩ (fun q => ?_) rfl od.2
      · -- classes
        have hq : P.fn q ≠ [] := hq
        unfold Pg.fn at hq
        split at hq
        · rename_i qq eq
          obtain ⟨x, f', fs⟩ := qq
          obtain ⟨_, _, l3, l4⟩ := L.clss q x f' fs eq
          have hfn : c.fn q = fs := by
            rw [L.fnm]; unfold Pg.fn; rw [eq]
          exact ⟨by rw [L.hK]; exact l3, by rw [hfn]; exact (hcl _ _ _ _ eq).2, by rw [hfn, L.hK]; exact l4⟩
        · exact absurd rfl hq
      · have h2 : P.glob g = some dd := h2
        unfold Pg.glob at h2
        split at h2
        · rename_i qq eq
          cases h2
          obtain ⟨y, dd⟩ := qq
          have : y = x := by
            have h1 : (P.globs.map (·.1))[g]? = some x := h1
            rw [List.getElem?_map, eq] at h1
            simpa using h1
          subst this
          exact L.glob g y dd eq
        · cases h2
      · have h1 : (P.defs.map fun d => (⟨d.x, d.ps, d.pl⟩ : FI))[f']? = some fi := h1
        rw [List.getElem?_map, Option.map_eq_some_iff] at h1
        obtain ⟨d', e', rfl⟩ := h1
        obtain ⟨m1, m2⟩ := L.mgd f' d' e' h2
        exact ⟨fa f', fd f', m1, m2, (L.defs f' d' e').2, all_ok L okP n f' d' e', fun ks π hk => L.kbs f' d' ks π e' hk⟩
      · have h2 : (P.defs.map fun d => (⟨d.x, d.ps, d.pl⟩ : FI))[f']? = some fi := h2
        rw [List.getElem?_map, Option.map_eq_some_iff] at h2
        obtain ⟨d', e', rfl⟩ := h2
        obtain ⟨l1, l2⟩ := L.lens k f' h1
        exact ⟨fa f', fd f', l1, l2, (L.defs f' d' e').2, all_ok L okP n f' d' e'⟩
      · have h2 : (P.defs.map fun d => (⟨d.x, d.ps, d.pl⟩ : FI))[f']? = some fi := h2
        rw [List.getElem?_map, Option.map_eq_some_iff] at h2
        obtain ⟨d', e', rfl⟩ := h2
        obtain ⟨l1, l2⟩ := L.eqs k f' h1
        exact ⟨fa f', fd f', l1, l2, (L.defs f' d' e').2, all_ok L okP n f' d' e'⟩
      · have h2 : (P.defs.map fun d => (⟨d.x, d.ps, d.pl⟩ : FI))[f']? = some fi := h2
        rw [List.getElem?_map, Option.map_eq_some_iff] at h2
        obtain ⟨d', e', rfl⟩ := h2
        have h1 : (P.clss.map fun q => (q.1, q.2.1))[k]? = some (x, f') := h1
        rw [List.getElem?_map, Option.map_eq_some_iff] at h1
        obtain ⟨⟨y, f'', fs⟩, e2, e3⟩ := h1
        injection e3 with e3 e4
        subst e3 e4
        obtain ⟨l1, l2, _, _⟩ := L.clss k _ _ fs e2
        exact ⟨fa _, fd _, l1, l2, (L.defs _ d' e').2, all_ok L okP n _ d' e'⟩
      · show (P.fn q).length ≤ 900
        unfold Pg.fn
        split
        · rename_i qq eq
          obtain ⟨x, f', fs⟩ := qq
          exact (hcl _ _ _ _ eq).1
        · exact Nat.zero_le _
    · obtain ⟨w, rs, S, sl, o, S', h1, h2, h3, h4, h5, h6⟩ := h
      rw [callN] at h5
      simp only [e] at h5
      unfold runDef at h5
      rw [if_pos h1] at h5
      split at h5
      · rename_i o' s' ex
        cases h5
        rw [← h1] at ex
        exact ⟨w, rs, _, _, s', start_rel h2 h3, ex, fun σ' H' w' R' st v q => h6 v H' w' R'.st q st⟩
      · rename_i s' ex
        cases h5
        rw [← h1] at ex
        exact ⟨w, rs, _, _, s', start_rel h2 h3, ex, fun σ' H' w' R' st => h6 .non H' w' R'.st (.leaf .non) st⟩
      · cases h5
end
end Dm

/-! The D machine: what the top leaves. -/
namespace Dm
open PySem L2 PyProof.Rows
def DI.at_ (d : DI) : Str × Option Str := match d.cls with
  | none => (d.x, none)
  | some C => (C, some d.x)
def DI.he (d : DI) : He.DefD := { at_ := d.at_, name := d.x, qual := d.qual, params := d.args, body := d.body.py, scope := d.sc }
def Pg.fnH (P : Pg) : List He.DefD := P.defs.map DI.he
def gloFa (q : Str × D) : He.Fa := match q.2 with
  | .int i => .int q.1 i
  | .str z => .str q.1 z
  | _ => .glo q.1
def gloOk (q : Str × D) : Bool := match q.2 with
  | .int _ => true
  | .str _ => true
  | _ => false
def Pg.cn (P : Pg) (k : Nat) : Str := match P.clss[k]? with
  | some q => q.1
  | none => ""
def Pg.faH (P : Pg) : List He.Fa :=
  ((P.defs.filter (·.pl)).map fun d => He.Fa.glo d.x) ++ P.globs.map gloFa ++ bltNames.map He.Fa.free ++
  (P.clss.flatMap fun q => [He.Fa.glo q.1, .cls q.1, .mkr q.1] ++ q.2.2.map fun f => He.Fa.noat q.1 f) ++
  (P.lens.map fun q => He.Fa.meth (P.cn q.1) "__len__") ++ (P.eqs.map fun q => He.Fa.meth (P.cn q.1) "__eq__")
def insB (K : PySem.W.Frag) (C : Addr) : Bool :=
  decide (PySem.W.findIn K (.ref C) "__class__" = some (some (.builtin "object.__class__"))) && decide (PySem.W.specialIn K (.builtin "object.__class__") "__get__" = some (some (.builtin "getset_descriptor.__get__"))) &&
  decide (PySem.W.takesIn K (.builtin "object.__class__") = some true) && decide (PySem.W.mroIn K C (.type "object") = some true) && decide (PySem.W.kitOne K (.ref C) (.ref C) = some true)
def Pg.exH (P : Pg) (K : PySem.W.Frag) : Bool := P.inss.all fun q => insB K (He.ga K q.2)
/-- the shape of the tables -/
def Pg.okH (P : Pg) : Bool :=
  P.globs.all gloOk && (P.defs.all fun d => d.pl == d.cls.isNone) &&
  (P.clss.all fun q => match P.defs[q.2.1]? with | some d => decide (d.at_ = (q.1, some ("__init__" : Str))) | none => false) &&
  (P.lens.all fun q => match P.defs[q.2]? with | some d => decide (d.at_ = (P.cn q.1, some ("__len__" : Str))) | none => false) &&
  (P.eqs.all fun q => match P.defs[q.2]? with | some d => decide (d.at_ = (P.cn q.1, some ("__eq__" : Str))) | none => false) &&
  (P.inss.all fun q => decide (P.cn q.1 = q.2) && decide (q.1 < P.clss.length))
def Pg.faA (P : Pg) (K : PySem.W.Frag) (f : Nat) : Addr := match P.defs[f]? with
  | some d => He.fAd K d.at_
  | none => 0
def Pg.cc (P : Pg) (K : PySem.W.Frag) : Cc := ⟨K, fun k => He.ga K (P.cn k), P.fn⟩
/-- how the defs bind -/
structure BindOk (P : Pg) : Prop where
  pos : ∀ (f : Nat) (d : DI), P.defs[f]? = some d → ∀ (kV doc pm : Value) (an : Option Addr) (cdv ct : Value) (us : List Value), us.length = d.ps.length → bindArgs (PySem.W.fnOf d.x d.qual d.args d.body.py d.sc .none kV doc pm an cdv ct) ⟨us, []⟩ = pure (d.ps.zip us)
  kw : ∀ (f : Nat) (d : DI) (ks : List Str) (π : List Nat), P.defs[f]? = some d → (f, ks, π) ∈ P.kws → ∀ (kV doc pm : Value) (an : Option Addr) (cdv ct : Value) (ws : List Value), ws.length = ks.length → bindArgs (PySem.W.fnOf d.x d.qual d.args d.body.py d.sc .none kV doc pm an cdv ct) ⟨[], ks.zip ws⟩ = pure (d.ps.zip (perm π ws))
theorem kbn_of {K : PySem.W.Frag} {x qual : Str} {params : Arguments} {body : List Stmt} {scope : Scope} {f : Addr} {fd : FuncData} {ps ks : List Str} {π : List Nat} (F : FunD K x qual params body scope [] [] f fd)
    (h : ∀ (kV doc pm : Value) (an : Option Addr) (cdv ct : Value) (ws : List Value), ws.length = ks.length → bindArgs (PySem.W.fnOf x qual params body scope .none kV doc pm an cdv ct) ⟨[], ks.zip ws⟩ = pure (ps.zip (perm π ws))) : KBn K fd ps 0 ks (fun _ ws => perm π ws) (fun _ zs => perm π zs) := by
  obtain ⟨oc, od, dV, kV, doc, pm, an, cdv, ct, osl, rfl, lk, hcd, hD, hK⟩ := F.ex
  rcases hD with ⟨_, rfl⟩ | ⟨e, _⟩
  · refine ⟨fun s us ws X l1 l2 => ?_, fun r1 r2 => perm_rel π r2⟩
    cases us with
    | nil => exact .of_eq (h kV doc pm an cdv ct ws l2)
    | cons => cases l1
  · exact absurd rfl e
theorem left_of {P : Pg} {K : PySem.W.Frag} {h : Heap} {mg : Str → Option Value} (X : K.In h) (G : h.Ns mainGlobals mg) (c : He.SaysD P.faH P.fnH K) (ex : P.exH K = true) (ok : P.okH = true) (B : BindOk P) : ∃ fd : Nat → FuncData, Left K mg P (P.cc K) (P.faA K) fd := by
  unfold Pg.okH at ok
  simp only [Bool.and_eq_true, List.all_eq_true] at ok
  obtain ⟨⟨⟨⟨⟨o1, o2⟩, o3⟩, o4⟩, o5⟩, o6⟩ := ok
  have hdef : ∀ f : Nat, ∃ fd, ∀ d, P.defs[f]? = some d → FunD K d.x d.qual d.args d.body.py d.sc [] [] (P.faA K f) fd := fun f => by
    cases e : P.defs[f]? with
    | none => exact ⟨default, fun d z => by cases z⟩
    | some d =>
      have hm : d.he ∈ P.fnH := List.mem_map.mpr ⟨d, List.mem_of_getElem? e, rfl⟩
      obtain ⟨fd, F⟩ := c.defs hm
      refine ⟨fd, fun d' z => ?_⟩
      cases z
      unfold Pg.faA
      rw [e]
      exact F
  obtain ⟨fd, hfd⟩ := Classical.axiomOfChoice hdef
  have bindN : ∀ (f : Nat) (d : DI) (e : P.defs[f]? = some d), Binds K (fd f) d.ps [] := fun f d e => (hfd f d e).bindsN (B.pos f d e)
  have mem : ∀ {x : He.Fa}, x ∈ P.faH → x.ok K = true := fun hx => c.facts hx
  have cn_of : ∀ {k : Nat} {x : Str} {f : Nat} {fs : List Str}, P.clss[k]? = some (x, f, fs) → P.cn k = x := fun {k x f fs} e => by
    unfold Pg.cn; rw [e]
  have clsFa : ∀ {k : Nat} {x : Str} {f : Nat} {fs : List Str}, P.clss[k]? = some (x, f, fs) → ∀ z ∈ ([He.Fa.glo x, .cls x, .mkr x] ++ fs.map fun f => He.Fa.noat x f), z ∈ P.faH := fun {k x f fs} e z hz => by
    unfold Pg.faH
    refine List.mem_append_left _ (List.mem_append_left _ (List.mem_append_right _ (List.mem_flatMap.mpr ⟨_, List.mem_of_getElem? e, hz⟩)))
  refine ⟨fd, ⟨rfl, rfl, fun f d e => ⟨hfd f d e, bindN f d e⟩, fun f d e hp => ⟨?_, (hfd f d e).kp⟩, fun k x f fs e => ?_, fun f d ks π e hk => kbn_of (hfd f d e) (B.kw f d ks π e hk), fun k f hk => ?_, fun k f hk => ?_, fun k x hk => ?_, fun x hx => ?_, fun g x d e => ?_⟩⟩
  · -- plain defs
    have h2 := o2 d (List.mem_of_getElem? e)
    rw [hp] at h2
    have hc : d.cls = none := by
      cases hc : d.cls with
      | none => rfl
      | some C => rw [hc] at h2; cases h2
    have : P.faA K f = He.ga K d.x := by
      unfold Pg.faA
      rw [e]
      show He.fAd K d.at_ = _
      unfold DI.at_ He.fAd
      rw [hc]
    rw [this]
    refine He.glo_ok X G (mem ?_)
    unfold Pg.faH
    refine List.mem_append_left _ (List.mem_append_left _ (List.mem_append_left _ (List.mem_append_left _ (List.mem_append_left _ (List.mem_map.mpr ⟨d, List.mem_filter.mpr ⟨List.mem_of_getElem? e, hp⟩, rfl⟩)))))
  · -- classes
    have cn := cn_of e
    have h3 := o3 _ (List.mem_of_getElem? e)
    have fac := clsFa e
    show mg x = some (.ref (He.ga K (P.cn k))) ∧ Mk K (He.ga K (P.cn k)) (P.faA K f) ∧ Cls K (He.ga K (P.cn k)) ∧ ∀ g ∈ fs, NoAttr K (He.ga K (P.cn k)) g
    rw [cn]
    refine ⟨He.glo_ok X G (mem (fac _ (by simp))), ?_, He.cls_ok (mem (fac (.cls x) (by simp))), fun g hg => He.noat_ok (mem (fac (.noat x g) (by simp [hg])))⟩
    have mk := He.mkr_ok (mem (fac (.mkr x) (by simp)))
    have : P.faA K f = He.ma K (He.ga K x) "__init__" := by
      unfold Pg.faA
      cases ef : P.defs[f]? with
      | none => simp only [ef] at h3; cases h3
      | some d =>
        simp only [ef, decide_eq_true_eq] at h3
        show He.fAd K d.at_ = _
        rw [h3]; rfl
    rw [this]
    exact mk
  · have h4 := o4 _ hk
    have m := He.meth_ok (mem (x := .meth (P.cn k) "__len__") (by
      unfold Pg.faH
      exact List.mem_append_left _ (List.mem_append_right _ (List.mem_map.mpr ⟨_, hk, rfl⟩))))
    have : P.faA K f = He.ma K (He.ga K (P.cn k)) "__len__" := by
      unfold Pg.faA
      cases ef : P.defs[f]? with
      | none => simp only [ef] at h4; cases h4
      | some d =>
        simp only [ef, decide_eq_true_eq] at h4
        show He.fAd K d.at_ = _
        rw [h4]; rfl
    rw [this]
    exact ⟨m.at_, m.fn⟩
  · have h5 := o5 _ hk
    have m := He.meth_ok (mem (x := .meth (P.cn k) "__eq__") (by
      unfold Pg.faH
      exact List.mem_append_right _ (List.mem_map.mpr ⟨_, hk, rfl⟩)))
    have : P.faA K f = He.ma K (He.ga K (P.cn k)) "__eq__" := by
      unfold Pg.faA
      cases ef : P.defs[f]? with
      | none => simp only [ef] at h5; cases h5
      | some d =>
        simp only [ef, decide_eq_true_eq] at h5
        show He.fAd K d.at_ = _
        rw [h5]; rfl
    rw [this]
    exact ⟨m.at_, m.fn⟩
  · have h6 := o6 _ hk
    simp only [decide_eq_true_eq] at h6
    obtain ⟨q, eq⟩ : ∃ q, P.clss[k]? = some q := ⟨_, List.getElem?_eq_getElem h6.2⟩
    obtain ⟨y, f, fs⟩ := q
    have cn := cn_of eq
    have e1 : y = x := cn.symm.trans h6.1
    subst e1
    have fac := clsFa eq
    show mg y = some (.ref (He.ga K (P.cn k))) ∧ C8.InsC K (He.ga K (P.cn k))
    rw [cn]
    have b := List.all_eq_true.mp ex _ hk
    unfold insB at b
    simp only [Bool.and_eq_true, decide_eq_true_eq] at b
    exact ⟨He.glo_ok X G (mem (fac _ (by simp))), ⟨He.cls_ok (mem (fac (.cls y) (by simp))), b.1.1.1.1, b.1.1.1.2, b.1.1.2, b.1.2, b.2⟩⟩
  · exact He.free_ok X G (mem (by
      unfold Pg.faH
      exact List.mem_append_left _ (List.mem_append_left _ (List.mem_append_left _ (List.mem_append_right _ (List.mem_map.mpr ⟨x, hx, rfl⟩))))))
  · have h1 := o1 _ (List.mem_of_getElem? e)
    have hm : (gloFa (x, d)).ok K = true := mem (by
      unfold Pg.faH
      exact List.mem_append_left _ (List.mem_append_left _ (List.mem_append_left _ (List.mem_append_left _ (List.mem_append_right _ (List.mem_map.mpr ⟨_, List.mem_of_getElem? e, rfl⟩))))))
    cases d with
    | int i =>
      obtain ⟨t, et⟩ := He.int_ok X G (x := x) (i := i) hm
      exact ⟨_, .int i, et, ⟨t, rfl⟩, fun w H => .int i⟩
    | str z =>
      obtain ⟨t, et⟩ := He.str_ok X G (x := x) (z := z) hm
      exact ⟨_, .str z, et, ⟨t, rfl⟩, fun w H => .str z⟩
    | _ => cases h1
end Dm

/-! The D machine: a law's end. -/
namespace Dm
open PySem L2 PyProof.Rows
theorem sp_law {K : PySem.W.Frag} {P : Pg} {call : CallF} {f : Nat} {H : Hp} {a : Addr} {ns : List Int} {E : XK} (hS : SqL K H a (ns.map V.int)) (h : call f [.val (.scr ns)] [] = some (.leaf (.bl true), [])) : spD (P.cc K) 1 call f [.ref a] H (fun v _ => v = .bl true) E := by
  have q : Is (P.cc K) noW H (.ref a) (.scr ns) := by
    refine .scr ?_
    rcases hS with z | z
    · exact .inl ⟨rfl, z⟩
    · exact .inr z
  refine ⟨noW, [], [], [.val (.scr ns)], _, _, rfl, .cons (show ArgOk (P.cc K) noW [] H _ (.val _) from q) .nil, fun j o e => by simp at e, fun a i p z => (by cases z), h, fun v H' wx cs q st => ?_⟩
  cases q with
  | leaf q => cases q; rfl
/-- what walk_ofE asks -/
theorem law_of {P : Pg} {prog : Program} {w : World} {mg : Str → Option Value} {fa : Addr} {h : Heap} {K : PySem.W.Frag} {x y : Str} {f wf n : Nat} {d : DI} (X : K.In h) (G : h.Ns mainGlobals mg) (c : He.SaysD P.faH P.fnH K) (ex : P.exH K = true) (okH : P.okH = true) (ok : P.ok = true) (B : BindOk P)
    (hd : P.defs[f]? = some d) (hp : d.pl = true) (hx : d.x = y) (hps : d.ps = [x]) (hmg : mg y = some (.ref fa)) (main : ∀ ns : List Int, ns.length ≤ 63 → callN P wf n f [.val (.scr ns)] [] = some (.leaf (.bl true), [])) :
    ∃ (K : PySem.W.Frag) (fd : FuncData) (sp : Sp), K.In h ∧ (∀ (s : Shared) (u : Value), BindsTo s fd ⟨[u], []⟩ [(x, u)]) ∧
        (∀ (H : Hp) (a : Addr) (ns : List Int), ns.length ≤ 63 → Only H → SqL K H a (ns.map V.int) → sp [.ref a] H (fun v _ => v = .bl true) fun _ _ _ => False) ∧
        ∀ base : Heap, K.In base → base.Ns mainGlobals mg → FnOk prog w K mg base L2.CX0 (2 * n) fa fd [x] sp := by
  obtain ⟨fd, L⟩ := left_of X G c ex okH B
  have hm := (L.mgd f d hd hp).1
  rw [hx, hmg] at hm
  cases hm
  refine ⟨K, fd f, spD (P.cc K) 1 (callN P wf n) f, X, fun s u => ?_, fun H a ns hl _ hS => sp_law hS (main ns hl), fun base _ _ => ?_⟩
  · have b := (L.defs f d hd).1.bindsA (ps := d.ps) (B.pos f d hd) s [u] (by rw [hps]; rfl)
    rw [hps] at b
    exact b
  · have := all_ok (Pr := prog) (wd := w) (base := base) (wf := wf) L ok n f d hd
    rw [hps] at this
    exact this
end Dm

/-! The D machine by itself: rules for loops. -/
namespace Dm
open PySem L2
inductive All2 {α β : Type} (R : α → β → Prop) : List α → List β → Prop
  | nil : All2 R [] []
  | cons {x : α} {y : β} {xs : List α} {ys : List β} : R x y → All2 R xs ys → All2 R (x :: xs) (y :: ys)
theorem back_wipe {L0 L L' : List Slot} {ids : List Nat} (h : wipeL L' ids = wipeL L ids) : backL L0 L' ids = backL L0 L ids := by
  have hlen : L'.length = L.length := by
    have := congrArg List.length h
    rw [wipeL_length, wipeL_length] at this
    exact this
  apply List.ext_getElem?
  intro i
  by_cases hi : i ∈ ids
  · by_cases hl : i < L.length
    · rw [backL_in hi (by omega), backL_in hi hl]
    · rw [List.getElem?_eq_none (by rw [backL_length]; omega), List.getElem?_eq_none (by rw [backL_length]; omega)]
  · rw [backL_out hi, backL_out hi]
    have := congrArg (·[i]?) h
    simp only [wipeL_out hi] at this
    exact this
theorem run_sp {α : Type} {ids : List Nat} {t : Tg} {body : M (List α)} (P : List OD → Prop) (Q : D → List α → Prop) {L0 : List Slot} :
    ∀ {items : List D}, (∀ x ∈ items, ∀ S, P S → ∃ ys S' L', P S' ∧ Q x ys ∧ (bnd (setT t x) fun _ => body) ⟨L0, S⟩ = some (ys, ⟨L', S'⟩) ∧ wipeL L' ids = L0) →
    ∀ {L : List Slot} {S : List OD}, wipeL L ids = L0 → P S → ∃ yss S' L', P S' ∧ All2 Q items yss ∧ runItems ids t body items ⟨L, S⟩ = some (yss.flatten, ⟨L', S'⟩) ∧ wipeL L' ids = L0
  | [], h, L, S, hL, hP => ⟨[], S, L, hP, .nil, rfl, hL⟩
  | x :: items, h, L, S, hL, hP => by
    obtain ⟨ys, S1, L1, p1, q1, e1, w1⟩ := h x List.mem_cons_self S hP
    obtain ⟨yss, S2, L2, p2, q2, e2, w2⟩ := run_sp P Q (fun y hy => h y (List.mem_cons_of_mem _ hy)) w1 p1
    refine ⟨ys :: yss, S2, L2, p2, .cons q1 q2, ?_, w2⟩
    obtain ⟨u, s1, e3, e4⟩ := bnd_some.mp e1
    rw [runItems]
    simp only [bnd, hL, e3, e4, e2, ret]
    rfl
variable {Γ : Env} {elt : E} {t : Tg} {it : Wk} {ifs : Es} {sc : Scope} {q p : Pos} {x y : Str} {i : Nat} {L : List Slot} {S S1 : List OD} {items : List D} {ids : List Nat} {own : List (Str × Nat)}
theorem inBlk_sp {α : Type} {m : M (List α)} {ys : List α} {L' : List Slot} {S' : List OD} (h : m ⟨L, S⟩ = some (ys, ⟨L', S'⟩)) (hw : wipeL L' ids = wipeL L ids) (hb : backL L L ids = L) (hz : ys.length ≤ sizeLine) : inBlk ids m ⟨L, S⟩ = some (ys, ⟨L, S'⟩) := by
  unfold inBlk
  rw [h]
  simp only []
  rw [if_pos hz, back_wipe hw, hb]
theorem inScope_sp {m : M (List D)} {ys : List D} {L' : List Slot} {S' : List OD} (h : m ⟨L, S⟩ = some (ys, ⟨L', S'⟩)) (hw : wipeL L' ids = wipeL L ids) (hb : backL L L ids = L) (hz : ys.length ≤ sizeLine) : inScope ids m ⟨L, S⟩ = some (.lst ys, ⟨L, S'⟩) := by
  unfold inScope
  rw [h]
  simp only []
  rw [if_pos hz, back_wipe hw, hb]
theorem forall₂_len {α β : Type} {R : α → β → Prop} : ∀ {xs : List α} {ys : List β}, All2 R xs ys → xs.length = ys.length
  | _, _, .nil => rfl
  | _, _, .cons _ r => by rw [List.length_cons, List.length_cons, forall₂_len r]
theorem forall₂_one {α β : Type} {R : α → β → Prop} : ∀ {xs : List α} {yss : List (List β)}, All2 (fun x ys => ∃ y, ys = [y] ∧ R x y) xs yss → All2 R xs yss.flatten
  | _, _, .nil => .nil
  | _, _, .cons ⟨y, e, h⟩ r => by subst e; exact .cons h (forall₂_one r)
theorem forall₂_map {α β : Type} {f : α → β} : ∀ {xs : List α} {ys : List β}, All2 (fun x y => y = f x) xs ys → ys = xs.map f
  | _, _, .nil => rfl
  | _, _, .cons h r => by rw [List.map_cons, h, forall₂_map r]
theorem forall₂_mono {α β : Type} {R R' : α → β → Prop} (h : ∀ x y, R x y → R' x y) : ∀ {xs : List α} {ys : List β}, All2 R xs ys → All2 R' xs ys
  | _, _, .nil => .nil
  | _, _, .cons a r => .cons (h _ _ a) (forall₂_mono h r)
theorem forall₂_right {α β : Type} {R : β → Prop} : ∀ {xs : List α} {ys : List β}, All2 (fun _ y => R y) xs ys → ∀ y ∈ ys, R y
  | _, _, .nil, y, h => nomatch h
  | _, _, .cons a r, y, h => by
    rcases List.mem_cons.mp h with rfl | h
    · exact a
    · exact forall₂_right r y h
/-- one target, no tests -/
theorem run1 {α : Type} {me : M α} (P : List OD → Prop) (Q : D → α → Prop) (hi : i < L.length)
    (h : ∀ v ∈ items, ∀ S, P S → ∃ a S', P S' ∧ Q v a ∧ me ⟨L.set i (.val v), S⟩ = some (a, ⟨L.set i (.val v), S'⟩)) (hP : P S) :
    ∃ ys S' L', P S' ∧ All2 Q items ys ∧ runItems [i] (.nm i x p) (bnd (denIfs Γ .nil) fun c => if c then bnd me fun d => ret [d] else ret []) items ⟨L, S⟩ = some (ys, ⟨L', S'⟩) ∧ wipeL L' [i] = wipeL L [i] := by
  obtain ⟨yss, S', L', p1, p2, p3, p4⟩ := run_sp (ids := [i]) (t := .nm i x p) (body := bnd (denIfs Γ .nil) fun c => if c then bnd me fun d => ret [d] else ret []) (items := items) P (fun v ys => ∃ a, ys = [a] ∧ Q v a) (L0 := wipeL L [i]) (fun v hv S2 hS => by
    obtain ⟨a, S3, h1, h2, h3⟩ := h v hv S2 hS
    refine ⟨[a], S3, L.set i (.val v), h1, ⟨a, rfl, h2⟩, ?_, by simp [wipeL]⟩
    have e1 : setT (.nm i x p) v ⟨wipeL L [i], S2⟩ = some ((), ⟨L.set i (.val v), S2⟩) := by
      simp [setT, setV, wipeL, hi]
    simp only [bnd, e1, denIfs, ret, h3, if_true]) (L := L) rfl hP
  exact ⟨yss.flatten, S', L', p1, forall₂_one p2, p3, p4⟩
theorem back1 (hb : L[i]? = some .no ∨ ∃ d, L[i]? = some (.val d)) : backL L L [i] = L := by
  apply List.ext_getElem?
  intro j
  have hi : i < L.length := by
    rcases hb with h | ⟨d, h⟩ <;> exact (List.getElem?_eq_some_iff.mp h).1
  by_cases hj : j = i
  · subst hj
    rw [backL_in (by simp) hi]
    unfold keepV
    rcases hb with h | ⟨d, h⟩ <;> rw [h]
  · rw [backL_out (by simpa using hj)]
theorem comp1 (P : List OD → Prop) (Q : D → D → Prop) (hb : L[i]? = some .no ∨ ∃ d, L[i]? = some (.val d)) (hit : denIt Γ it ⟨L, S⟩ = some (items, ⟨L, S1⟩)) (hz : items.length ≤ sizeLine)
    (h : ∀ v ∈ items, ∀ S, P S → ∃ a S', P S' ∧ Q v a ∧ den Γ elt ⟨L.set i (.val v), S⟩ = some (a, ⟨L.set i (.val v), S'⟩)) (hP : P S1) :
    ∃ ys S', P S' ∧ All2 Q items ys ∧ den Γ (.comp elt (.nm i x p) it .nil sc [(y, i)] q) ⟨L, S⟩ = some (.lst ys, ⟨L, S'⟩) := by
  have hi : i < L.length := by
    rcases hb with h | ⟨d, h⟩ <;> exact (List.getElem?_eq_some_iff.mp h).1
  obtain ⟨ys, S', L', p1, p2, p3, p4⟩ := run1 (Γ := Γ) (x := x) (p := p) P Q hi h hP
  refine ⟨ys, S', p1, p2, ?_⟩
  have hz' : ys.length ≤ sizeLine := by rw [← forall₂_len p2]; exact hz
  have hs := inScope_sp p3 p4 (back1 hb) hz'
  simp only [den, bnd, hit]
  exact hs
theorem comp1F (P : List OD → Prop) (Q : D → D → Prop) (hb : L[i]? = some .no ∨ ∃ d, L[i]? = some (.val d)) (hit : denIt Γ it ⟨L, S⟩ = some (items, ⟨L, S1⟩)) (hz : items.length ≤ sizeLine)
    (h : ∀ v ∈ items, ∀ S, P S → ∃ a S', P S' ∧ Q v a ∧ den Γ elt ⟨L.set i (.val v), S⟩ = some (a, ⟨L.set i (.val v), S'⟩)) (hP : P S1) :
    ∃ ys S', P S' ∧ All2 Q items ys ∧ denF Γ (.comp elt (.nm i x p) it .nil sc [(y, i)] q) ⟨L, S⟩ = some (ys, ⟨L, S'⟩) := by
  have hi : i < L.length := by
    rcases hb with h | ⟨d, h⟩ <;> exact (List.getElem?_eq_some_iff.mp h).1
  obtain ⟨ys, S', L', p1, p2, p3, p4⟩ := run1 (Γ := Γ) (x := x) (p := p) P Q hi h hP
  refine ⟨ys, S', p1, p2, ?_⟩
  have hz' : ys.length ≤ sizeLine := by rw [← forall₂_len p2]; exact hz
  have hs := inBlk_sp p3 p4 (back1 hb) hz'
  simp only [denF, bnd, hit]
  exact hs
theorem comp1R (P : List OD → Prop) (Q : D → List D → Prop) (hb : L[i]? = some .no ∨ ∃ d, L[i]? = some (.val d)) (hit : denIt Γ it ⟨L, S⟩ = some (items, ⟨L, S1⟩)) (hz : items.length ≤ sizeLine)
    (h : ∀ v ∈ items, ∀ S, P S → ∃ a S', P S' ∧ Q v a ∧ denF Γ elt ⟨L.set i (.val v), S⟩ = some (a, ⟨L.set i (.val v), S'⟩)) (hP : P S1) :
    ∃ ys S', P S' ∧ All2 Q items ys ∧ denR Γ (.comp elt (.nm i x p) it .nil sc [(y, i)] q) ⟨L, S⟩ = some (ys, ⟨L, S'⟩) := by
  have hi : i < L.length := by
    rcases hb with h | ⟨d, h⟩ <;> exact (List.getElem?_eq_some_iff.mp h).1
  obtain ⟨ys, S', L', p1, p2, p3, p4⟩ := run1 (Γ := Γ) (x := x) (p := p) P Q hi h hP
  refine ⟨ys, S', p1, p2, ?_⟩
  have hz' : ys.length ≤ sizeLine := by rw [← forall₂_len p2]; exact hz
  have hs := inBlk_sp p3 p4 (back1 hb) hz'
  simp only [denR, bnd, hit]
  exact hs
/-- nothing is drawn -/
theorem comp1p (f : D → D) (hb : L[i]? = some .no ∨ ∃ d, L[i]? = some (.val d)) (hit : denIt Γ it ⟨L, S⟩ = some (items, ⟨L, S⟩)) (hz : items.length ≤ sizeLine)
    (h : ∀ v ∈ items, den Γ elt ⟨L.set i (.val v), S⟩ = some (f v, ⟨L.set i (.val v), S⟩)) :
    den Γ (.comp elt (.nm i x p) it .nil sc [(y, i)] q) ⟨L, S⟩ = some (.lst (items.map f), ⟨L, S⟩) := by
  obtain ⟨ys, S', rfl, h2, h3⟩ := comp1 (Γ := Γ) (elt := elt) (x := x) (p := p) (sc := sc) (y := y) (q := q) (fun S' => S' = S) (fun v a => a = f v) hb hit hz (fun v hv S2 e => by subst e; exact ⟨_, _, rfl, rfl, h v hv⟩) rfl
  rw [h3, forall₂_map h2]
/-- loops -/
theorem for_inv {t : Tg} {body : M Fl} (I : St → Prop) : ∀ {items : List D}, (∀ v ∈ items, ∀ s, I s → ∃ s1 s2, setT t v s = some ((), s1) ∧ body s1 = some (.nx, s2) ∧ I s2) → ∀ {s : St}, I s → ∃ s', forM t body items s = some (.nx, s') ∧ I s'
  | [], _, s, hs => ⟨s, rfl, hs⟩
  | v :: items, h, s, hs => by
    obtain ⟨s1, s2, e1, e2, i2⟩ := h v List.mem_cons_self s hs
    obtain ⟨s', e3, i3⟩ := for_inv I (fun y hy => h y (List.mem_cons_of_mem _ hy)) i2
    refine ⟨s', ?_, i3⟩
    rw [forM]
    simp only [bnd, e1, turnEnd, e2, e3]
theorem for_find {t : Tg} {body : M Fl} (I J : St → Prop) (pb : D → Bool) (o : D → OD) : ∀ {items : List D}, (∀ v ∈ items, ∀ s, I s → ∃ s1 s2, setT t v s = some ((), s1) ∧ ((pb v = true ∧ body s1 = some (.rt (o v), s2) ∧ J s2) ∨ (pb v = false ∧ body s1 = some (.nx, s2) ∧ I s2))) →
    ∀ {s : St}, I s → ∃ s', (match items.find? pb with | some v => forM t body items s = some (.rt (o v), s') ∧ J s' | none => forM t body items s = some (.nx, s') ∧ I s')
  | [], _, s, hs => ⟨s, rfl, hs⟩
  | v :: items, h, s, hs => by
    obtain ⟨s1, s2, e1, hh⟩ := h v List.mem_cons_self s hs
    rcases hh with ⟨hp, e2, j2⟩ | ⟨hp, e2, i2⟩
    · refine ⟨s2, ?_⟩
      rw [List.find?_cons, hp]
      refine ⟨?_, j2⟩
      rw [forM]
      simp only [bnd, e1, turnEnd, e2, ret]
    · obtain ⟨s', e3⟩ := for_find I J pb o (fun y hy => h y (List.mem_cons_of_mem _ hy)) i2
      refine ⟨s', ?_⟩
      rw [List.find?_cons, hp]
      simp only []
      split at e3
      · rename_i w hw
        refine ⟨?_, e3.2⟩
        rw [forM]
        simp only [bnd, e1, turnEnd, e2, e3.1]
      · rename_i hw
        refine ⟨?_, e3.2⟩
        rw [forM]
        simp only [bnd, e1, turnEnd, e2, e3.1]
/-- statements -/
theorem r_nx {ts : Ts} {s s1 : St} {tt : T} (h : exec Γ tt s = some (.nx, s1)) : execs Γ (.cons tt ts) s = execs Γ ts s1 := by
  rw [execs]; simp only [andThen, bnd, h]
theorem r_rt {ts : Ts} {s s1 : St} {tt : T} {o : OD} (h : exec Γ tt s = some (.rt o, s1)) : execs Γ (.cons tt ts) s = some (.rt o, s1) := by
  rw [execs]; simp only [andThen, bnd, h, ret]
theorem r_def {d : DI} {sl : List Slot} {S S' : List OD} {o : OD} {L' : List Slot} (hl : sl.length = d.ps.length) (h : execs Γ d.body ⟨sl ++ List.replicate (d.N.length - d.ps.length) .no, S⟩ = some (.rt o, ⟨L', S'⟩)) : runDef Γ d sl S = some (o, S') := by
  unfold runDef
  rw [if_pos hl, h]
theorem bnd_ok {α β : Type} {m : M α} {k : α → M β} {s s1 : St} {a : α} (h : m s = some (a, s1)) : bnd m k s = k a s1 := by
  unfold bnd; rw [h]
theorem mutF_own {j : Nat} {f : List D → Option (D × List D)} {L : List Slot} {S : List OD} {ds ds' : List D} {d : D} (h : L[j]? = some (.own (.fl ds))) (hf : f ds = some (d, ds')) : mutF j f ⟨L, S⟩ = some (d, ⟨L.set j (.own (.fl ds')), S⟩) := by
  unfold mutF
  simp only [h, hf]
theorem v_mth1 {m : Mm} {j : Nat} {x : Str} {p1 p2 p3 : Pos} {e : E} {L L1 : List Slot} {S S1 : List OD} {ds0 ds ds' : List D} {a d : D} (hp : L[j]? = some (.own (.fl ds0))) (he : den Γ e ⟨L, S⟩ = some (a, ⟨L1, S1⟩)) (hL : L1[j]? = some (.own (.fl ds))) (hf : mm1 m a ds = some (d, ds')) :
    den Γ (.mth1 m j x p1 p2 e p3) ⟨L, S⟩ = some (d, ⟨L1.set j (.own (.fl ds')), S1⟩) := by
  rw [den]
  have h1 : peekL j ⟨L, S⟩ = some ((), ⟨L, S⟩) := by unfold peekL peekO; simp only [hp]
  rw [bnd_ok h1, bnd_ok he]
  exact mutF_own hL hf
theorem v_mth0 {m : Mm} {j : Nat} {x : Str} {p1 p2 p3 : Pos} {L : List Slot} {S : List OD} {ds ds' : List D} {d : D} (hp : L[j]? = some (.own (.fl ds))) (hf : mm0 m ds = some (d, ds')) :
    den Γ (.mth0 m j x p1 p2 p3) ⟨L, S⟩ = some (d, ⟨L.set j (.own (.fl ds')), S⟩) := by
  rw [den]
  exact mutF_own hp hf
theorem x_exp {e : E} {p : Pos} {s s1 : St} {d : D} (h : den Γ e s = some (d, s1)) : exec Γ (.exp e p) s = some (.nx, s1) := by
  rw [exec, bnd_ok h]; rfl
theorem mm_append {z : D} {found : List D} (h : found.length < 1000) : mm1 .append z found = some (.non, found ++ [z]) := by
  unfold mm1
  simp only []
  rw [if_pos (by unfold sizeLine; omega)]
theorem ix_nat {n k : Nat} (h : k < n) : ixN n (k : Int) = some k := by
  unfold ixN
  rw [if_pos (by omega), if_pos (by omega)]
  simp
theorem mm_pop {left : List D} {r : Nat} (h2 : left.length < 1000) (hr' : r < left.length) : mm1 .pop (.int r) left = some (left[r], left.eraseIdx r) := by
  unfold mm1
  simp only []
  rw [if_pos (by omega), ix_nat hr']
  simp only [List.getElem?_eq_getElem hr']
theorem mm_ext {x : D} {es ds : List D} (hx : itD x = some es) (h : ds.length + es.length < 1000) : mm1 .extend x ds = some (.non, ds ++ es) := by
  cases x <;> simp only [itD] at hx <;> cases hx
  · unfold mm1
    simp only []
    rw [if_pos (by unfold sizeLine; omega)]
  · unfold mm1
    simp only []
    rw [if_pos (by unfold sizeLine; omega)]
theorem mm_last {ds : List D} {d : D} : mm0 .pop (ds ++ [d]) = some (d, ds) := by
  unfold mm0
  simp
theorem x_setv {e : E} {nm : Nm} {p : Pos} {s : St} {d : D} {L : List Slot} {S : List OD} (h : den Γ e s = some (d, ⟨L, S⟩)) (hi : nm.i < L.length) : exec Γ (.set nm (.v e) p) s = some (.nx, ⟨L.set nm.i (.val d), S⟩) := by
  rw [exec, denOE, bnd_ok (bnd_ok h)]
  simp only [ret, bnd, setSlot, hi, if_true]
theorem v_bin {a b : E} {op : Operator} {p : Pos} {s s1 s2 : St} {x y d : D} (ha : den Γ a s = some (x, s1)) (hb : den Γ b s1 = some (y, s2)) (h : binD op x y = some d) : den Γ (.bin a op b p) s = some (d, s2) := by
  rw [den, bnd_ok ha, bnd_ok hb, h]; rfl
theorem x_ret {e : E} {p : Pos} {s s1 : St} {d : D} (h : den Γ e s = some (d, s1)) : exec Γ (.ret e p) s = some (.rt (.leaf d), s1) := by
  rw [exec, bnd_ok h]; rfl
theorem v_var {i : Nat} {x : Str} {p : Pos} {L : List Slot} {S : List OD} {d : D} (h : L[i]? = some (.val d)) : den Γ (.var i x p) ⟨L, S⟩ = some (d, ⟨L, S⟩) := by
  rw [den]; simp only [readVar, h]
theorem v_con {c : Const} {k : Nat} {p : Pos} {s : St} {d : D} (h : conD c = some d) : den Γ (.con c k p) s = some (d, s) := by
  rw [den, h]; rfl
/-- calls -/
theorem v_call {f : Nat} {x : Str} {p q : Pos} {as : As} {s : St} {sl : List Slot} {L : List Slot} {S S' : List OD} {d : D} (ha : denAs Γ as s = some (sl, ⟨L, S⟩)) (h : Γ.call f sl S = some (.leaf d, S')) : den Γ (.call f x p as q) s = some (d, ⟨L, S'⟩) := by
  rw [den, bnd_ok ha]
  simp only [bnd, doCall, h]
  rfl
theorem a_nil {s : St} : denAs Γ .nil s = some ([], s) := by rw [denAs]; rfl
theorem a_val {e : E} {as : As} {s s1 s2 : St} {d : D} {sl : List Slot} (h : den Γ e s = some (d, s1)) (ha : denAs Γ as s1 = some (sl, s2)) : denAs Γ (.val e as) s = some (.val d :: sl, s2) := by
  rw [denAs, bnd_ok h, bnd_ok ha]; rfl
theorem a_shv {i : Nat} {x : Str} {p : Pos} {as : As} {L : List Slot} {S : List OD} {s2 : St} {d : D} {sl : List Slot} (h : L[i]? = some (.val d)) (ha : denAs Γ as ⟨L, S⟩ = some (sl, s2)) : denAs Γ (.share i x p as) ⟨L, S⟩ = some (.val d :: sl, s2) := by
  rw [denAs]
  simp only [bnd, h, ha, ret]
theorem a_shr {i : Nat} {x : Str} {p : Pos} {as : As} {L : List Slot} {S : List OD} {s2 : St} {j : Nat} {sl : List Slot} (h : L[i]? = some (.ref j)) (ha : denAs Γ as ⟨L, S⟩ = some (sl, s2)) : denAs Γ (.share i x p as) ⟨L, S⟩ = some (.ref j :: sl, s2) := by
  rw [denAs]
  simp only [bnd, h, ha, ret]
theorem x_iff_t {c : E} {a b : Ts} {p : Pos} {s s1 : St} {r : Option (Fl × St)} (h : den Γ c s = some (.bl true, s1)) (ha : execs Γ a s1 = r) : exec Γ (.iff c a b p) s = r := by
  rw [exec, tst, bnd_ok (bnd_ok h)]
  exact ha
theorem x_iff_f {c : E} {a b : Ts} {p : Pos} {s s1 : St} {r : Option (Fl × St)} (h : den Γ c s = some (.bl false, s1)) (ha : execs Γ b s1 = r) : exec Γ (.iff c a b p) s = r := by
  rw [exec, tst, bnd_ok (bnd_ok h)]
  exact ha
theorem x_skip {c : E} {a : Ts} {p : Pos} {s s1 : St} (h : den Γ c s = some (.bl false, s1)) : exec Γ (.iff c a .nil p) s = some (.nx, s1) := x_iff_f h (by rw [execs]; rfl)
theorem v_not {a : E} {p : Pos} {s s1 : St} {b : Bool} (h : den Γ a s = some (.bl b, s1)) : den Γ (.una .Not a p) s = some (.bl !b, s1) := by
  rw [den, unaM, bnd_ok h]; rfl
theorem v_cmp {a b : E} {op : CmpOp} {p : Pos} {s s1 s2 : St} {x y d : D} (na : ∀ i z q, a ≠ .bv i z q) (nb : ∀ i z q, b ≠ .bv i z q) (ha : den Γ a s = some (x, s1)) (hb : den Γ b s1 = some (y, s2)) (h : cmpD op x y = some d) : den Γ (.cmp a op b p) s = some (d, s2) := by
  rw [den]
  have h1 : opn (den Γ b) b = den Γ b := by
    unfold opn
    split
    · exact absurd rfl (nb _ _ _)
    · rfl
  rw [h1]
  unfold cmpM
  split
  · exact absurd rfl (na _ _ _)
  · rw [bnd_ok ha, bnd_ok hb, h]; rfl
theorem v_lrng {e : E} {p1 p2 q2 q1 : Pos} {s s1 : St} {x d : D} (ha : den Γ e s = some (x, s1)) (h : lrngD x = some d) : den Γ (.lrng p1 p2 e q2 q1) s = some (d, s1) := by
  rw [den, bnd_ok ha, h]; rfl
theorem v_ss {e : E} {p1 p2 q2 q1 : Pos} {s s1 : St} {x d : D} (ha : den Γ e s = some (x, s1)) (h : ssD x = some d) : den Γ (.ss p1 p2 e q2 q1) s = some (d, s1) := by
  rw [den, bnd_ok ha, h]; rfl
theorem v_idx {a e : E} {p q : Pos} {s s1 s2 : St} {x y d : D} (ha : den Γ a s = some (x, s1)) (hb : den Γ e s1 = some (y, s2)) (h : idxD x y = some d) : den Γ (.idx a p e q) s = some (d, s2) := by
  rw [den, bnd_ok ha, bnd_ok hb, h]; rfl
theorem v_sub {a b : E} {p : Pos} {s s1 s2 : St} {x y d : D} (na : ∀ i z q, a ≠ .bv i z q) (ha : den Γ a s = some (x, s1)) (hb : den Γ b s1 = some (y, s2)) (h : ixD x y = some d) : den Γ (.sub a b p) s = some (d, s2) := by
  rw [den]
  unfold subM
  split
  · exact absurd rfl (na _ _ _)
  · rw [bnd_ok ha, bnd_ok hb, h]; rfl
theorem v_bi1 {b : Bi} {e : E} {p q : Pos} {s s1 : St} {x d : D} (na : ∀ i z q, e ≠ .bv i z q) (ha : den Γ e s = some (x, s1)) (h : bi1D b x = some d) : den Γ (.bi1 b p e q) s = some (d, s1) := by
  rw [den]
  have h1 : opn (den Γ e) e = den Γ e := by
    unfold opn
    split
    · exact absurd rfl (na _ _ _)
    · rfl
  rw [h1, bnd_ok ha, h]; rfl
end Dm

namespace Dm.K44
open PySem L2 PyProof.Rows Dm
def st0 : Stmt := .Pass ⟨0, 0, 0, 0⟩
def defBody : Stmt → List Stmt
  | .FunctionDef _ _ b _ _ _ _ _ _ _ => b
  | _ => []
def defArgs : Stmt → Arguments
  | .FunctionDef _ a _ _ _ _ _ _ _ _ => a
  | _ => ⟨[], [], none, [], [], none, []⟩
def inClass : Stmt → Nat → Stmt
  | .ClassDef _ _ _ b _ _ _ _ _ _ _, i => b.getD i st0
  | _, _ => st0
def ifA : Stmt → List Stmt
  | .If _ a _ _ => a
  | _ => []
def ifB : Stmt → List Stmt
  | .If _ _ b _ => b
  | _ => []
def loopB : Stmt → List Stmt
  | .For _ _ a _ _ => a
  | .While _ a _ _ => a
  | _ => []
def BN (d : DI) : Prop := ∀ (kV doc pm : Value) (an : Option Addr) (cdv ct : Value) (us : List Value), us.length = d.ps.length → bindArgs (PySem.W.fnOf d.x d.qual d.args d.body.py d.sc .none kV doc pm an cdv ct) ⟨us, []⟩ = pure (d.ps.zip us)
def KN (d : DI) (ks : List Str) (π : List Nat) : Prop := ∀ (kV doc pm : Value) (an : Option Addr) (cdv ct : Value) (ws : List Value), ws.length = ks.length → bindArgs (PySem.W.fnOf d.x d.qual d.args d.body.py d.sc .none kV doc pm an cdv ct) ⟨[], ks.zip ws⟩ = pure (d.ps.zip (perm π ws))
def P (l a b : Nat) : Pos := ⟨l, a, l, b⟩
def topS (i : Nat) : Stmt := PySem.Challenge.pw_oneshelf_k44_whole_thresholds_and_shower.main.body.getD i (.Pass ⟨0, 0, 0, 0⟩)
/-- is_integer -/
def t0_0 : T :=
   (.ret (.bop .And (.isi (.var 0 "value" (P 3 22 27)) .int (P 3 11 21) (P 3 29 32) (P 3 11 33)) (.cons (.una .Not (.isi (.var 0 "value" (P 3 54 59)) .bool (P 3 43 53) (P 3 61 65) (P 3 43 66)) (P 3 39 66)) .nil) (P 3 11 67)) (P 3 4 67))
def b0 : Ts :=
   (.cons t0_0 .nil)
def d0 : DI := ⟨"is_integer", "is_integer", none, true, ["value"], ["value"], defArgs (topS 1), ⟨.function, [("value", .local), ("isinstance", .globalImplicit), ("int", .globalImplicit), ("bool", .globalImplicit)], false, false, []⟩, b0⟩
/-- is_list -/
def t1_0 : T :=
   (.ret (.isiT (.var 0 "value" (P 5 22 27)) [(.list, (P 5 30 34)), (.tuple, (P 5 36 41))] 0 (P 5 11 21) (P 5 29 42) (P 5 11 43)) (P 5 4 43))
def b1 : Ts :=
   (.cons t1_0 .nil)
def d1 : DI := ⟨"is_list", "is_list", none, true, ["value"], ["value"], defArgs (topS 2), ⟨.function, [("value", .local), ("isinstance", .globalImplicit), ("list", .globalImplicit), ("tuple", .globalImplicit)], false, false, []⟩, b1⟩
/-- is_below -/
def t2_0 : T :=
   (.ret (.bop .And (.call 0 "is_integer" (P 29 11 21) (.share 0 "value" (P 29 22 27) .nil) (P 29 11 28)) (.cons (.cmp2 (.con (.int 0) 0 (P 29 33 34)) .LtE (.var 0 "value" (P 29 38 43)) .Lt (.var 1 "limit" (P 29 46 51)) (P 29 33 51)) .nil) (P 29 11 51)) (P 29 4 51))
def b2 : Ts :=
   (.cons t2_0 .nil)
def d2 : DI := ⟨"is_below", "is_below", none, true, ["value", "limit"], ["value", "limit"], defArgs (topS 13), ⟨.function, [("value", .local), ("limit", .local), ("is_integer", .globalImplicit)], false, false, []⟩, b2⟩
/-- Table.__init__ -/
def u3_0 : T :=
   (.bad ((ifA ((defBody (inClass (topS 14) 0)).getD 0 (.Pass ⟨0, 0, 0, 0⟩))).getD 0 (.Pass ⟨0, 0, 0, 0⟩)))
def s3_0 : Ts :=
   (.cons u3_0 .nil)
def t3_0 : T :=
   (.iff (.bop .Or (.una .Not (.call 1 "is_list" (P 33 15 22) (.share 1 "rows" (P 33 23 27) .nil) (P 33 15 28)) (P 33 11 28)) (.cons (.una .Not (.cmp2 (.con (.int 1) 0 (P 33 36 37)) .LtE (.bi1 .len (P 33 41 44) (.var 1 "rows" (P 33 45 49)) (P 33 41 50)) .LtE (.glo 0 "MOST_VALUES" (P 33 54 65)) (P 33 36 65)) (P 33 32 65)) .nil) (P 33 11 65)) s3_0 .nil ⟨33, 8, 34, 36⟩)
def c3_0 : E :=
   (.comp (.call 2 "is_below" (P 36 70 78) (.share 4 "value" (P 36 79 84) (.val (.bi1 .len (P 36 86 89) (.var 1 "rows" (P 36 90 94)) (P 36 86 95)) .nil)) (P 36 70 96)) (.nm 4 "value" (P 36 101 106)) (.e (.var 3 "row" (P 36 110 113))) .nil ⟨.function, [(".0", .local), ("value", .local), ("is_below", .globalImplicit), ("len", .globalImplicit), ("rows", .free)], false, false, []⟩ [("value", 4)] (P 36 69 114))
def u3_1 : T :=
   (.bad ((ifA ((loopB ((defBody (inClass (topS 14) 0)).getD 1 (.Pass ⟨0, 0, 0, 0⟩))).getD 0 (.Pass ⟨0, 0, 0, 0⟩))).getD 0 (.Pass ⟨0, 0, 0, 0⟩)))
def s3_1 : Ts :=
   (.cons u3_1 .nil)
def u3_2 : T :=
   (.iff (.bop .Or (.una .Not (.call 1 "is_list" (P 36 19 26) (.share 3 "row" (P 36 27 30) .nil) (P 36 19 31)) (P 36 15 31)) (.cons (.cmp (.bi1 .len (P 36 35 38) (.var 3 "row" (P 36 39 42)) (P 36 35 43)) .NotEq (.bi1 .len (P 36 47 50) (.var 1 "rows" (P 36 51 55)) (P 36 47 56)) (P 36 35 56)) (.cons (.una .Not (.bi1 .all (P 36 65 68) c3_0 (P 36 65 115)) (P 36 61 115)) .nil)) (P 36 15 116)) s3_1 .nil ⟨36, 12, 37, 44⟩)
def s3_2 : Ts :=
   (.cons u3_2 .nil)
def t3_1 : T :=
   (.for (.tp (.cons (.nm 2 "position" (P 35 12 20)) (.cons (.nm 3 "row" (P 35 22 25)) .nil)) 0 (P 35 12 25)) (.enu (.var 1 "rows" (P 35 39 43)) (P 35 29 38) (P 35 29 44)) s3_2 ⟨35, 8, 37, 44⟩)
def c3_1 : E :=
   (.comp (.conv .tuple (P 38 31 36) (.var 3 "row" (P 38 37 40)) (P 38 31 41)) (.nm 3 "row" (P 38 46 49)) (.e (.var 1 "rows" (P 38 53 57))) .nil ⟨.function, [(".0", .local), ("row", .local), ("tuple", .globalImplicit)], false, false, []⟩ [("row", 3)] (P 38 30 58))
def t3_2 : T :=
   (.setF ⟨0, "self", (P 38 8 12)⟩ 0 "own_rows" (P 38 8 21) (.conv .tuple (P 38 24 29) c3_1 (P 38 24 59)) (P 38 8 59))
def b3 : Ts :=
   (.cons t3_0 (.cons t3_1 (.cons t3_2 .nil)))
def d3 : DI := ⟨"__init__", "Table.__init__", (some "Table"), false, ["self", "rows"], ["self", "rows", "position", "row", "value"], defArgs (inClass (topS 14) 0), ⟨.function, [("self", .local), ("rows", .cell), ("position", .local), ("row", .local), ("is_list", .globalImplicit), ("len", .globalImplicit), ("MOST_VALUES", .globalImplicit), ("InvalidTable", .globalImplicit), ("enumerate", .globalImplicit), ("all", .globalImplicit), ("tuple", .globalImplicit)], false, false, [("fast", .str "self"), ("fast", .str "rows"), ("fast", .str "position"), ("fast", .str "row"), ("fast", .str "value")]⟩, b3⟩
/-- want_values -/
def u4_0 : T :=
   (.bad ((ifA ((defBody (topS 17)).getD 0 (.Pass ⟨0, 0, 0, 0⟩))).getD 0 (.Pass ⟨0, 0, 0, 0⟩)))
def s4_0 : Ts :=
   (.cons u4_0 .nil)
def t4_0 : T :=
   (.iff (.bop .Or (.una .Not (.call 1 "is_list" (P 62 11 18) (.share 1 "values" (P 62 19 25) .nil) (P 62 11 26)) (P 62 7 26)) (.cons (.cmp (.bi1 .len (P 62 30 33) (.var 1 "values" (P 62 34 40)) (P 62 30 41)) .Lt (.var 2 "least" (P 62 44 49)) (P 62 30 49)) .nil) (P 62 7 49)) s4_0 .nil ⟨62, 4, 63, 33⟩)
def u4_1 : T :=
   (.bad ((ifA ((loopB ((defBody (topS 17)).getD 1 (.Pass ⟨0, 0, 0, 0⟩))).getD 0 (.Pass ⟨0, 0, 0, 0⟩))).getD 0 (.Pass ⟨0, 0, 0, 0⟩)))
def s4_1 : Ts :=
   (.cons u4_1 .nil)
def u4_2 : T :=
   (.iff (.una .Not (.call 9 "is_value" (P 65 15 23) (.share 0 "table" (P 65 24 29) (.share 4 "value" (P 65 31 36) .nil)) (P 65 15 37)) (P 65 11 37)) s4_1 .nil ⟨65, 8, 66, 41⟩)
def s4_2 : Ts :=
   (.cons u4_2 .nil)
def t4_1 : T :=
   (.for (.tp (.cons (.nm 3 "position" (P 64 8 16)) (.cons (.nm 4 "value" (P 64 18 23)) .nil)) 0 (P 64 8 23)) (.enu (.var 1 "values" (P 64 37 43)) (P 64 27 36) (P 64 27 44)) s4_2 ⟨64, 4, 66, 41⟩)
def b4 : Ts :=
   (.cons t4_0 (.cons t4_1 .nil))
def d4 : DI := ⟨"want_values", "want_values", none, true, ["table", "values", "least"], ["table", "values", "least", "position", "value"], defArgs (topS 17), ⟨.function, [("table", .local), ("values", .local), ("least", .local), ("position", .local), ("value", .local), ("is_list", .globalImplicit), ("len", .globalImplicit), ("InvalidValues", .globalImplicit), ("enumerate", .globalImplicit), ("is_value", .globalImplicit)], false, false, []⟩, b4⟩
/-- want_melting -/
def u5_0 : T :=
   (.bad ((ifA ((defBody (topS 24)).getD 0 (.Pass ⟨0, 0, 0, 0⟩))).getD 0 (.Pass ⟨0, 0, 0, 0⟩)))
def s5_0 : Ts :=
   (.cons u5_0 .nil)
def t5_0 : T :=
   (.iff (.una .Not (.call 18 "do_melt" (P 86 11 18) (.share 0 "table" (P 86 19 24) .nil) (P 86 11 25)) (P 86 7 25)) s5_0 .nil ⟨86, 4, 87, 26⟩)
def b5 : Ts :=
   (.cons t5_0 .nil)
def d5 : DI := ⟨"want_melting", "want_melting", none, true, ["table"], ["table"], defArgs (topS 24), ⟨.function, [("table", .local), ("do_melt", .globalImplicit), ("NotMelting", .globalImplicit)], false, false, []⟩, b5⟩
/-- Table.__len__ -/
def t6_0 : T :=
   (.ret (.bi1 .len (P 49 15 18) (.att (.var 0 "self" (P 49 19 23)) 0 "own_rows" (P 49 19 32)) (P 49 15 33)) (P 49 8 33))
def b6 : Ts :=
   (.cons t6_0 .nil)
def d6 : DI := ⟨"__len__", "Table.__len__", (some "Table"), false, ["self"], ["self"], defArgs (inClass (topS 14) 3), ⟨.function, [("self", .local), ("len", .globalImplicit)], false, false, []⟩, b6⟩
/-- Table.__eq__ -/
def t7_0 : T :=
   (.ret (.bop .And (.isiC (.var 1 "other" (P 52 26 31)) 0 "Table" (P 52 15 25) (P 52 33 38) (P 52 15 39)) (.cons (.cmp (.att (.var 0 "self" (P 52 44 48)) 0 "own_rows" (P 52 44 57)) .Eq (.att (.var 1 "other" (P 52 61 66)) 0 "own_rows" (P 52 61 75)) (P 52 44 75)) .nil) (P 52 15 75)) (P 52 8 75))
def b7 : Ts :=
   (.cons t7_0 .nil)
def d7 : DI := ⟨"__eq__", "Table.__eq__", (some "Table"), false, ["self", "other"], ["self", "other"], defArgs (inClass (topS 14) 4), ⟨.function, [("self", .local), ("other", .local), ("isinstance", .globalImplicit), ("Table", .globalImplicit)], false, false, []⟩, b7⟩
/-- joined -/
def t8_0 : T :=
   (.set ⟨2, "found", (P 89 4 9)⟩ (.v (.sub (.var 1 "values" (P 89 12 18)) (.con (.int 0) 0 (P 89 19 20)) (P 89 12 21))) (P 89 4 21))
def u8_0 : T :=
   (.set ⟨2, "found", (P 91 8 13)⟩ (.v (.sub (.sub (.att (.var 0 "table" (P 91 16 21)) 0 "own_rows" (P 91 16 30)) (.var 2 "found" (P 91 31 36)) (P 91 16 37)) (.var 3 "value" (P 91 38 43)) (P 91 16 44))) (P 91 8 44))
def s8_0 : Ts :=
   (.cons u8_0 .nil)
def t8_1 : T :=
   (.for (.nm 3 "value" (P 90 8 13)) (.e (.sl (.var 1 "values" (P 90 17 23)) (.yes (.con (.int 1) 0 (P 90 24 25))) .no (P 90 24 26) (P 90 17 27))) s8_0 ⟨90, 4, 91, 44⟩)
def t8_2 : T :=
   (.ret (.var 2 "found" (P 92 11 16)) (P 92 4 16))
def b8 : Ts :=
   (.cons t8_0 (.cons t8_1 (.cons t8_2 .nil)))
def d8 : DI := ⟨"joined", "joined", none, true, ["table", "values"], ["table", "values", "found", "value"], defArgs (topS 25), ⟨.function, [("table", .local), ("values", .local), ("found", .local), ("value", .local)], false, false, []⟩, b8⟩
/-- is_value -/
def t9_0 : T :=
   (.ret (.call 2 "is_below" (P 57 11 19) (.share 1 "value" (P 57 20 25) (.val (.bi1 .len (P 57 27 30) (.att (.var 0 "table" (P 57 31 36)) 0 "own_rows" (P 57 31 45)) (P 57 27 46)) .nil)) (P 57 11 47)) (P 57 4 47))
def b9 : Ts :=
   (.cons t9_0 .nil)
def d9 : DI := ⟨"is_value", "is_value", none, true, ["table", "value"], ["table", "value"], defArgs (topS 15), ⟨.function, [("table", .local), ("value", .local), ("is_below", .globalImplicit), ("len", .globalImplicit)], false, false, []⟩, b9⟩
/-- lies_within -/
def t10_0 : T :=
   (.ret (.cmp (.sub (.sub (.att (.var 0 "table" (P 94 11 16)) 0 "own_rows" (P 94 11 25)) (.var 1 "one" (P 94 26 29)) (P 94 11 30)) (.var 2 "other" (P 94 31 36)) (P 94 11 37)) .Eq (.var 2 "other" (P 94 41 46)) (P 94 11 46)) (P 94 4 46))
def b10 : Ts :=
   (.cons t10_0 .nil)
def d10 : DI := ⟨"lies_within", "lies_within", none, true, ["table", "one", "other"], ["table", "one", "other"], defArgs (topS 26), ⟨.function, [("table", .local), ("one", .local), ("other", .local)], false, false, []⟩, b10⟩
/-- is_pair -/
def t11_0 : T :=
   (.ret (.bop .And (.isi (.var 0 "value" (P 68 22 27)) .tuple (P 68 11 21) (P 68 29 34) (P 68 11 35)) (.cons (.cmp (.bi1 .len (P 68 40 43) (.var 0 "value" (P 68 44 49)) (P 68 40 50)) .Eq (.con (.int 2) 0 (P 68 54 55)) (P 68 40 55)) .nil) (P 68 11 55)) (P 68 4 55))
def b11 : Ts :=
   (.cons t11_0 .nil)
def d11 : DI := ⟨"is_pair", "is_pair", none, true, ["value"], ["value"], defArgs (topS 18), ⟨.function, [("value", .local), ("isinstance", .globalImplicit), ("tuple", .globalImplicit), ("len", .globalImplicit)], false, false, []⟩, b11⟩
/-- greatest_of -/
def t12_0 : T :=
   (.ret (.call 8 "joined" (P 96 11 17) (.share 0 "table" (P 96 18 23) (.val (.lrng (P 96 25 29) (P 96 30 35) (.lenO 0 6 (P 96 36 39) (.var 0 "table" (P 96 40 45)) (P 96 36 46)) (P 96 30 47) (P 96 25 48)) .nil)) (P 96 11 49)) (P 96 4 49))
def b12 : Ts :=
   (.cons t12_0 .nil)
def d12 : DI := ⟨"greatest_of", "greatest_of", none, true, ["table"], ["table"], defArgs (topS 27), ⟨.function, [("table", .local), ("joined", .globalImplicit), ("list", .globalImplicit), ("range", .globalImplicit), ("len", .globalImplicit)], false, false, []⟩, b12⟩
/-- want_thresholds -/
def u13_0 : T :=
   (.bad ((ifA ((defBody (topS 28)).getD 0 (.Pass ⟨0, 0, 0, 0⟩))).getD 0 (.Pass ⟨0, 0, 0, 0⟩)))
def s13_0 : Ts :=
   (.cons u13_0 .nil)
def t13_0 : T :=
   (.iff (.una .Not (.call 1 "is_list" (P 98 11 18) (.share 1 "thresholds" (P 98 19 29) .nil) (P 98 11 30)) (P 98 7 30)) s13_0 .nil ⟨98, 4, 99, 33⟩)
def u13_1 : T :=
   (.bad ((ifA ((loopB ((defBody (topS 28)).getD 1 (.Pass ⟨0, 0, 0, 0⟩))).getD 0 (.Pass ⟨0, 0, 0, 0⟩))).getD 0 (.Pass ⟨0, 0, 0, 0⟩)))
def s13_1 : Ts :=
   (.cons u13_1 .nil)
def u13_2 : T :=
   (.iff (.bop .Or (.una .Not (.call 9 "is_value" (P 101 15 23) (.share 0 "table" (P 101 24 29) (.share 3 "value" (P 101 31 36) .nil)) (P 101 15 37)) (P 101 11 37)) (.cons (.cmp (.var 3 "value" (P 101 41 46)) .In (.sl (.var 1 "thresholds" (P 101 50 60)) .no (.yes (.var 2 "position" (P 101 62 70))) (P 101 61 70) (P 101 50 71)) (P 101 41 71)) .nil) (P 101 11 71)) s13_1 .nil ⟨101, 8, 102, 41⟩)
def s13_2 : Ts :=
   (.cons u13_2 .nil)
def t13_1 : T :=
   (.for (.tp (.cons (.nm 2 "position" (P 100 8 16)) (.cons (.nm 3 "value" (P 100 18 23)) .nil)) 0 (P 100 8 23)) (.enu (.var 1 "thresholds" (P 100 37 47)) (P 100 27 36) (P 100 27 48)) s13_2 ⟨100, 4, 102, 41⟩)
def b13 : Ts :=
   (.cons t13_0 (.cons t13_1 .nil))
def d13 : DI := ⟨"want_thresholds", "want_thresholds", none, true, ["table", "thresholds"], ["table", "thresholds", "position", "value"], defArgs (topS 28), ⟨.function, [("table", .local), ("thresholds", .local), ("position", .local), ("value", .local), ("is_list", .globalImplicit), ("InvalidValues", .globalImplicit), ("enumerate", .globalImplicit), ("is_value", .globalImplicit)], false, false, []⟩, b13⟩
/-- result_of -/
def u14_0 : T :=
   (.ret (.sub (.sub (.att (.var 0 "table" (P 71 15 20)) 0 "own_rows" (P 71 15 29)) (.call 14 "result_of" (P 71 30 39) (.share 0 "table" (P 71 40 45) (.val (.sub (.var 1 "melt" (P 71 47 51)) (.con (.int 0) 0 (P 71 52 53)) (P 71 47 54)) .nil)) (P 71 30 55)) (P 71 15 56)) (.call 14 "result_of" (P 71 57 66) (.share 0 "table" (P 71 67 72) (.val (.sub (.var 1 "melt" (P 71 74 78)) (.con (.int 1) 0 (P 71 79 80)) (P 71 74 81)) .nil)) (P 71 57 82)) (P 71 15 83)) (P 71 8 83))
def s14_0 : Ts :=
   (.cons u14_0 .nil)
def t14_0 : T :=
   (.iff (.call 11 "is_pair" (P 70 7 14) (.share 1 "melt" (P 70 15 19) .nil) (P 70 7 20)) s14_0 .nil ⟨70, 4, 71, 83⟩)
def t14_1 : T :=
   (.ret (.var 1 "melt" (P 72 11 15)) (P 72 4 15))
def b14 : Ts :=
   (.cons t14_0 (.cons t14_1 .nil))
def d14 : DI := ⟨"result_of", "result_of", none, true, ["table", "melt"], ["table", "melt"], defArgs (topS 19), ⟨.function, [("table", .local), ("melt", .local), ("is_pair", .globalImplicit), ("result_of", .globalImplicit)], false, false, []⟩, b14⟩
/-- read_along -/
def u15_0 : T :=
   (.set ⟨4, "state", (P 105 8 13)⟩ (.v (.call 8 "joined" (P 105 16 22) (.share 0 "table" (P 105 23 28) (.val (.sl (.var 2 "shower" (P 105 30 36)) .no (.yes (.var 3 "size" (P 105 38 42))) (P 105 37 42) (P 105 30 43)) .nil)) (P 105 16 44))) (P 105 8 44))
def c15_0 : E :=
   (.comp (.var 6 "value" (P 106 24 29)) (.nm 6 "value" (P 106 34 39)) (.e (.var 1 "thresholds" (P 106 43 53))) (.cons (.call 10 "lies_within" (P 106 57 68) (.share 0 "table" (P 106 69 74) (.share 6 "value" (P 106 76 81) (.share 4 "state" (P 106 83 88) .nil))) (P 106 57 89)) .nil) ⟨.function, [(".0", .local), ("value", .local), ("lies_within", .globalImplicit), ("state", .free), ("table", .free)], false, false, []⟩ [("value", 6)] (P 106 23 90))
def u15_1 : T :=
   (.set ⟨5, "found", (P 106 8 13)⟩ (.o (.srt (P 106 16 22) c15_0 (P 106 16 91))) (P 106 8 91))
def u15_2 : T :=
   (.retO (.mv 5 "found" (P 108 19 24)) (P 108 12 24))
def s15_0 : Ts :=
   (.cons u15_2 .nil)
def u15_3 : T :=
   (.iff (.cmp (.bv 5 "found" (P 107 11 16)) .NotEq (.lst .nil (P 107 20 22)) (P 107 11 22)) s15_0 .nil ⟨107, 8, 108, 24⟩)
def s15_1 : Ts :=
   (.cons u15_0 (.cons u15_1 (.cons u15_3 .nil)))
def t15_0 : T :=
   (.for (.nm 3 "size" (P 104 8 12)) (.rng2 (.con (.int 1) 0 (P 104 22 23)) (.bin (.bi1 .len (P 104 25 28) (.var 2 "shower" (P 104 29 35)) (P 104 25 36)) .Add (.con (.int 1) 0 (P 104 39 40)) (P 104 25 40)) (P 104 16 21) (P 104 16 41)) s15_1 ⟨104, 4, 108, 24⟩)
def t15_1 : T :=
   (.retO (.v (.con .none 0 (P 109 11 15))) (P 109 4 15))
def b15 : Ts :=
   (.cons t15_0 (.cons t15_1 .nil))
def d15 : DI := ⟨"read_along", "read_along", none, true, ["table", "thresholds", "shower"], ["table", "thresholds", "shower", "size", "state", "found", "value"], defArgs (topS 29), ⟨.function, [("table", .cell), ("thresholds", .local), ("shower", .local), ("size", .local), ("state", .cell), ("found", .local), ("range", .globalImplicit), ("len", .globalImplicit), ("joined", .globalImplicit), ("sorted", .globalImplicit)], false, false, [("fast", .str "table"), ("fast", .str "thresholds"), ("fast", .str "shower"), ("fast", .str "size"), ("fast", .str "state"), ("fast", .str "value"), ("fast", .str "found")]⟩, b15⟩
/-- known_pairs -/
def t16_0 : T :=
   (.set ⟨1, "values", (P 74 4 10)⟩ (.v (.lrng (P 74 13 17) (P 74 18 23) (.var 0 "size" (P 74 24 28)) (P 74 18 29) (P 74 13 30))) (P 74 4 30))
def c16_0 : E :=
   (.comp (.tup (.cons (.tup (.cons (.var 3 "x" (P 75 15 16)) (.cons (.var 3 "x" (P 75 18 19)) .nil)) 0 (P 75 14 20)) (.cons (.var 3 "x" (P 75 22 23)) .nil)) 0 (P 75 13 24)) (.nm 3 "x" (P 75 29 30)) (.e (.var 1 "values" (P 75 34 40))) .nil ⟨.function, [(".0", .local), ("x", .local)], false, false, []⟩ [("x", 3)] (P 75 12 41))
def c16_1 : E :=
   (.compN (.tup (.cons (.tup (.cons (.var 3 "x" (P 75 47 48)) (.cons (.var 4 "y" (P 75 50 51)) .nil)) 0 (P 75 46 52)) (.cons (.tup (.cons (.var 4 "y" (P 75 55 56)) (.cons (.var 3 "x" (P 75 58 59)) .nil)) 0 (P 75 54 60)) .nil)) 0 (P 75 45 61)) (.cons (.nm 3 "x" (P 75 66 67)) (.e (.var 1 "values" (P 75 71 77))) .nil (.cons (.nm 4 "y" (P 75 82 83)) (.e (.var 1 "values" (P 75 87 93))) .nil .nil)) ⟨.function, [(".0", .local), ("x", .local), ("y", .local), ("values", .free)], false, false, []⟩ [("x", 3), ("y", 4)] (P 75 44 94))
def t16_1 : T :=
   (.set ⟨2, "found", (P 75 4 9)⟩ (.v (.bin c16_0 .Add c16_1 (P 75 12 94))) (P 75 4 94))
def c16_2 : E :=
   (.compN (.tup (.cons (.tup (.cons (.tup (.cons (.var 3 "x" (P 76 23 24)) (.cons (.var 4 "y" (P 76 26 27)) .nil)) 0 (P 76 22 28)) (.cons (.var 5 "z" (P 76 30 31)) .nil)) 0 (P 76 21 32)) (.cons (.tup (.cons (.var 3 "x" (P 76 35 36)) (.cons (.tup (.cons (.var 4 "y" (P 76 39 40)) (.cons (.var 5 "z" (P 76 42 43)) .nil)) 0 (P 76 38 44)) .nil)) 0 (P 76 34 45)) .nil)) 0 (P 76 20 46)) (.cons (.nm 3 "x" (P 76 51 52)) (.e (.var 1 "values" (P 76 56 62))) .nil (.cons (.nm 4 "y" (P 76 67 68)) (.e (.var 1 "values" (P 76 72 78))) .nil (.cons (.nm 5 "z" (P 76 83 84)) (.e (.var 1 "values" (P 76 88 94))) .nil .nil))) ⟨.function, [(".0", .local), ("x", .local), ("y", .local), ("z", .local), ("values", .free)], false, false, []⟩ [("x", 3), ("y", 4), ("z", 5)] (P 76 19 95))
def t16_2 : T :=
   (.ret (.bin (.var 2 "found" (P 76 11 16)) .Add c16_2 (P 76 11 95)) (P 76 4 95))
def b16 : Ts :=
   (.cons t16_0 (.cons t16_1 (.cons t16_2 .nil)))
def d16 : DI := ⟨"known_pairs", "known_pairs", none, true, ["size"], ["size", "values", "found", "x", "y", "z"], defArgs (topS 20), ⟨.function, [("size", .local), ("values", .cell), ("found", .local), ("list", .globalImplicit), ("range", .globalImplicit)], false, false, [("fast", .str "size"), ("fast", .str "values"), ("fast", .str "x"), ("fast", .str "y"), ("fast", .str "found"), ("fast", .str "z")]⟩, b16⟩
/-- parting -/
def u17_0 : T :=
   (.ret (.tup (.cons (.var 1 "one" (P 80 20 23)) (.cons (.var 2 "other" (P 80 25 30)) .nil)) 0 (P 80 19 31)) (P 80 12 31))
def s17_0 : Ts :=
   (.cons u17_0 .nil)
def u17_1 : T :=
   (.iff (.cmp (.call 14 "result_of" (P 79 11 20) (.share 0 "table" (P 79 21 26) (.share 1 "one" (P 79 28 31) .nil)) (P 79 11 32)) .NotEq (.call 14 "result_of" (P 79 36 45) (.share 0 "table" (P 79 46 51) (.share 2 "other" (P 79 53 58) .nil)) (P 79 36 59)) (P 79 11 59)) s17_0 .nil ⟨79, 8, 80, 31⟩)
def s17_1 : Ts :=
   (.cons u17_1 .nil)
def t17_0 : T :=
   (.for (.tp (.cons (.nm 1 "one" (P 78 8 11)) (.cons (.nm 2 "other" (P 78 13 18)) .nil)) 0 (P 78 8 18)) (.e (.call 16 "known_pairs" (P 78 22 33) (.val (.lenO 0 6 (P 78 34 37) (.var 0 "table" (P 78 38 43)) (P 78 34 44)) .nil) (P 78 22 45))) s17_1 ⟨78, 4, 80, 31⟩)
def t17_1 : T :=
   (.ret (.con .none 0 (P 81 11 15)) (P 81 4 15))
def b17 : Ts :=
   (.cons t17_0 (.cons t17_1 .nil))
def d17 : DI := ⟨"parting", "parting", none, true, ["table"], ["table", "one", "other"], defArgs (topS 21), ⟨.function, [("table", .local), ("one", .local), ("other", .local), ("known_pairs", .globalImplicit), ("len", .globalImplicit), ("result_of", .globalImplicit)], false, false, []⟩, b17⟩
/-- do_melt -/
def t18_0 : T :=
   (.ret (.cmp (.call 17 "parting" (P 83 11 18) (.share 0 "table" (P 83 19 24) .nil) (P 83 11 25)) .Is (.con .none 0 (P 83 29 33)) (P 83 11 33)) (P 83 4 33))
def b18 : Ts :=
   (.cons t18_0 .nil)
def d18 : DI := ⟨"do_melt", "do_melt", none, true, ["table"], ["table"], defArgs (topS 22), ⟨.function, [("table", .local), ("parting", .globalImplicit)], false, false, []⟩, b18⟩
/-- read_of -/
def t19_0 : T :=
   (.exp (.call 5 "want_melting" (P 111 4 16) (.share 0 "table" (P 111 17 22) .nil) (P 111 4 23)) (P 111 4 23))
def t19_1 : T :=
   (.exp (.call 13 "want_thresholds" (P 112 4 19) (.share 0 "table" (P 112 20 25) (.share 1 "thresholds" (P 112 27 37) .nil)) (P 112 4 38)) (P 112 4 38))
def t19_2 : T :=
   (.exp (.call 4 "want_values" (P 113 4 15) (.share 0 "table" (P 113 16 21) (.share 2 "shower" (P 113 23 29) (.val (.con (.int 1) 0 (P 113 31 32)) .nil))) (P 113 4 33)) (P 113 4 33))
def t19_3 : T :=
   (.retO (.oc (.call 15 "read_along" (P 114 11 21) (.share 0 "table" (P 114 22 27) (.share 1 "thresholds" (P 114 29 39) (.share 2 "shower" (P 114 41 47) .nil))) (P 114 11 48))) (P 114 4 48))
def b19 : Ts :=
   (.cons t19_0 (.cons t19_1 (.cons t19_2 (.cons t19_3 .nil))))
def d19 : DI := ⟨"read_of", "read_of", none, true, ["table", "thresholds", "shower"], ["table", "thresholds", "shower"], defArgs (topS 30), ⟨.function, [("table", .local), ("thresholds", .local), ("shower", .local), ("want_melting", .globalImplicit), ("want_thresholds", .globalImplicit), ("want_values", .globalImplicit), ("read_along", .globalImplicit)], false, false, []⟩, b19⟩
/-- loose_pair -/
def t20_0 : T :=
   (.set ⟨2, "clash", (P 116 4 9)⟩ (.v (.call 12 "greatest_of" (P 116 12 23) (.share 0 "table" (P 116 24 29) .nil) (P 116 12 30))) (P 116 4 30))
def u20_0 : T :=
   (.ret (.tup (.cons (.var 4 "one" (P 120 24 27)) (.cons (.var 5 "other" (P 120 29 34)) .nil)) 0 (P 120 23 35)) (P 120 16 35))
def s20_0 : Ts :=
   (.cons u20_0 .nil)
def u20_1 : T :=
   (.iff (.cmp (.sub (.sub (.att (.var 0 "table" (P 119 15 20)) 0 "own_rows" (P 119 15 29)) (.var 4 "one" (P 119 30 33)) (P 119 15 34)) (.var 5 "other" (P 119 35 40)) (P 119 15 41)) .NotEq (.var 2 "clash" (P 119 45 50)) (P 119 15 50)) s20_0 .nil ⟨119, 12, 120, 35⟩)
def s20_1 : Ts :=
   (.cons u20_1 .nil)
def u20_2 : T :=
   (.for (.nm 5 "other" (P 118 12 17)) (.e (.sl (.var 1 "thresholds" (P 118 21 31)) .no (.yes (.var 3 "position" (P 118 33 41))) (P 118 32 41) (P 118 21 42))) s20_1 ⟨118, 8, 120, 35⟩)
def s20_2 : Ts :=
   (.cons u20_2 .nil)
def t20_1 : T :=
   (.for (.tp (.cons (.nm 3 "position" (P 117 8 16)) (.cons (.nm 4 "one" (P 117 18 21)) .nil)) 0 (P 117 8 21)) (.enu (.var 1 "thresholds" (P 117 35 45)) (P 117 25 34) (P 117 25 46)) s20_2 ⟨117, 4, 120, 35⟩)
def t20_2 : T :=
   (.ret (.con .none 0 (P 121 11 15)) (P 121 4 15))
def b20 : Ts :=
   (.cons t20_0 (.cons t20_1 (.cons t20_2 .nil)))
def d20 : DI := ⟨"loose_pair", "loose_pair", none, true, ["table", "thresholds"], ["table", "thresholds", "clash", "position", "one", "other"], defArgs (topS 31), ⟨.function, [("table", .local), ("thresholds", .local), ("clash", .local), ("position", .local), ("one", .local), ("other", .local), ("greatest_of", .globalImplicit), ("enumerate", .globalImplicit)], false, false, []⟩, b20⟩
/-- _law_pot -/
def t21_0 : T :=
   (.set ⟨2, "_law_cell", (P 144 4 13)⟩ (.v (.bin (.bin (.con (.int 181) 0 (P 144 16 19)) .Mult (.var 1 "_law_k" (P 144 22 28)) (P 144 16 28)) .Add (.con (.int 89) 0 (P 144 31 33)) (P 144 16 33))) (P 144 4 33))
def u21_0 : T :=
   (.set ⟨2, "_law_cell", (P 146 8 17)⟩ (.v (.bi1 .abs (P 146 20 23) (.sub (.var 0 "_law_script" (P 146 24 35)) (.var 1 "_law_k" (P 146 36 42)) (P 146 24 43)) (P 146 20 44))) (P 146 8 44))
def s21_0 : Ts :=
   (.cons u21_0 .nil)
def t21_1 : T :=
   (.iff (.cmp (.var 1 "_law_k" (P 145 7 13)) .Lt (.bi1 .len (P 145 16 19) (.var 0 "_law_script" (P 145 20 31)) (P 145 16 32)) (P 145 7 32)) s21_0 .nil ⟨145, 4, 146, 44⟩)
def t21_2 : T :=
   (.retO (.o (.lst (.cons (.bi2 .max2 (P 147 12 15) (.con (.int 0) 0 (P 147 16 17)) (.bin (.var 2 "_law_cell" (P 147 19 28)) .Sub (.bin (.con (.int 10) 0 (P 147 31 33)) .Pow (.con (.int 18) 0 (P 147 37 39)) (P 147 31 39)) (P 147 19 39)) (P 147 12 40)) (.cons (.bin (.bin (.bi1 .int (P 147 42 45) (.bin (.bin (.bin (.bin (.bi1 .int (P 147 46 49) (.var 2 "_law_cell" (P 147 50 59)) (P 147 46 60)) .Mod (.con (.int 2147483549) 0 (P 147 63 73)) (P 147 46 73)) .Mult (.con (.int 48271) 0 (P 147 76 81)) (P 147 46 81)) .Add (.bin (.con (.int 9539) 0 (P 147 84 88)) .Mult (.var 1 "_law_k" (P 147 91 97)) (P 147 84 97)) (P 147 46 97)) .Add (.con (.int 43) 0 (P 147 100 102)) (P 147 46 102)) (P 147 42 103)) .Mod (.con (.int 2147483497) 0 (P 147 106 116)) (P 147 42 116)) .Add (.con (.int 1) 0 (P 147 119 120)) (P 147 42 120)) .nil)) (P 147 11 121))) (P 147 4 121))
def b21 : Ts :=
   (.cons t21_0 (.cons t21_1 (.cons t21_2 .nil)))
def d21 : DI := ⟨"_law_pot", "_law_pot", none, true, ["_law_script", "_law_k"], ["_law_script", "_law_k", "_law_cell"], defArgs (topS 37), ⟨.function, [("_law_script", .local), ("_law_k", .local), ("_law_cell", .local), ("len", .globalImplicit), ("abs", .globalImplicit), ("max", .globalImplicit), ("int", .globalImplicit)], false, false, []⟩, b21⟩
/-- _law_draw -/
def u22_0 : T :=
   (.subnm ⟨0, "_law_pot_here", (P 150 8 21)⟩ 0 0 (P 150 22 23) (P 150 8 24) ⟨2, "_law_digit", (P 150 26 36)⟩ 0 (P 150 8 36) (.bi2 .divmod (P 150 39 45) (.sub (.bv 0 "_law_pot_here" (P 150 46 59)) (.con (.int 0) 0 (P 150 60 61)) (P 150 46 62)) (.var 1 "_law_many" (P 150 64 73)) (P 150 39 74)) (P 150 8 74))
def u22_1 : T :=
   (.ret (.var 2 "_law_digit" (P 151 15 25)) (P 151 8 25))
def s22_0 : Ts :=
   (.cons u22_0 (.cons u22_1 .nil))
def t22_0 : T :=
   (.iff (.cmp (.sub (.bv 0 "_law_pot_here" (P 149 7 20)) (.con (.int 0) 0 (P 149 21 22)) (P 149 7 23)) .Gt (.con (.int 0) 0 (P 149 26 27)) (P 149 7 27)) s22_0 .nil ⟨149, 4, 151, 25⟩)
def t22_1 : T :=
   (.setI ⟨0, "_law_pot_here", (P 152 4 17)⟩ (.con (.int 1) 0 (P 152 18 19)) (P 152 4 20) (.bin (.bi1 .int (P 152 23 26) (.bin (.bin (.sub (.bv 0 "_law_pot_here" (P 152 27 40)) (.con (.int 1) 0 (P 152 41 42)) (P 152 27 43)) .Mult (.con (.int 48271) 0 (P 152 46 51)) (P 152 27 51)) .Add (.con (.int 20011) 0 (P 152 54 59)) (P 152 27 59)) (P 152 23 60)) .Mod (.con (.int 2147483497) 0 (P 152 63 73)) (P 152 23 73)) (P 152 4 73))
def t22_2 : T :=
   (.ret (.bin (.bi1 .int (P 153 11 14) (.bin (.bin (.bi1 .int (P 153 15 18) (.bin (.sub (.bv 0 "_law_pot_here" (P 153 19 32)) (.con (.int 1) 0 (P 153 33 34)) (P 153 19 35)) .Mult (.sub (.bv 0 "_law_pot_here" (P 153 38 51)) (.con (.int 1) 0 (P 153 52 53)) (P 153 38 54)) (P 153 19 54)) (P 153 15 55)) .Mod (.con (.int 2147483549) 0 (P 153 58 68)) (P 153 15 68)) .FloorDiv (.con (.int 19) 0 (P 153 72 74)) (P 153 15 74)) (P 153 11 75)) .Mod (.var 1 "_law_many" (P 153 78 87)) (P 153 11 87)) (P 153 4 87))
def b22 : Ts :=
   (.cons t22_0 (.cons t22_1 (.cons t22_2 .nil)))
def d22 : DI := ⟨"_law_draw", "_law_draw", none, true, ["_law_pot_here", "_law_many"], ["_law_pot_here", "_law_many", "_law_digit"], defArgs (topS 38), ⟨.function, [("_law_pot_here", .local), ("_law_many", .local), ("_law_digit", .local), ("divmod", .globalImplicit), ("int", .globalImplicit)], false, false, []⟩, b22⟩
/-- _law_pick -/
def t23_0 : T :=
   (.ret (.sub (.var 1 "_law_some" (P 155 11 20)) (.call 22 "_law_draw" (P 155 21 30) (.share 0 "_law_pot_here" (P 155 31 44) (.val (.bi1 .len (P 155 46 49) (.var 1 "_law_some" (P 155 50 59)) (P 155 46 60)) .nil)) (P 155 21 61)) (P 155 11 62)) (P 155 4 62))
def b23 : Ts :=
   (.cons t23_0 .nil)
def d23 : DI := ⟨"_law_pick", "_law_pick", none, true, ["_law_pot_here", "_law_some"], ["_law_pot_here", "_law_some"], defArgs (topS 39), ⟨.function, [("_law_pot_here", .local), ("_law_some", .local), ("_law_draw", .globalImplicit), ("len", .globalImplicit)], false, false, []⟩, b23⟩
/-- _law_mixed -/
def t24_0 : T :=
   (.par [⟨2, "_law_left", (P 157 4 13)⟩, ⟨3, "_law_found", (P 157 15 25)⟩] 0 (P 157 4 25) [(.o (.conv .list (P 157 29 33) (.var 1 "_law_some" (P 157 34 43)) (P 157 29 44))), (.o (.lst .nil (P 157 46 48)))] 0 (P 157 28 49) (P 157 4 49))
def c24_0 : E :=
   (.cmp (.bv 2 "_law_left" (P 158 10 19)) .NotEq (.lst .nil (P 158 23 25)) (P 158 10 25))
def u24_0 : T :=
   (.exp (.mth1 .append 3 "_law_found" (P 159 8 18) (P 159 8 25) (.mth1 .pop 2 "_law_left" (P 159 26 35) (P 159 26 39) (.call 22 "_law_draw" (P 159 40 49) (.share 0 "_law_pot_here" (P 159 50 63) (.val (.bi1 .len (P 159 65 68) (.bv 2 "_law_left" (P 159 69 78)) (P 159 65 79)) .nil)) (P 159 40 80)) (P 159 26 81)) (P 159 8 82)) (P 159 8 82))
def s24_0 : Ts :=
   (.cons u24_0 .nil)
def t24_1 : T :=
   (.whl c24_0 s24_0 ⟨158, 4, 159, 82⟩)
def t24_2 : T :=
   (.ret (.var 3 "_law_found" (P 160 11 21)) (P 160 4 21))
def b24 : Ts :=
   (.cons t24_0 (.cons t24_1 (.cons t24_2 .nil)))
def d24 : DI := ⟨"_law_mixed", "_law_mixed", none, true, ["_law_pot_here", "_law_some"], ["_law_pot_here", "_law_some", "_law_left", "_law_found"], defArgs (topS 40), ⟨.function, [("_law_pot_here", .local), ("_law_some", .local), ("_law_left", .local), ("_law_found", .local), ("list", .globalImplicit), ("_law_draw", .globalImplicit), ("len", .globalImplicit)], false, false, []⟩, b24⟩
/-- _law_lots -/
def t25_0 : T :=
   (.set ⟨1, "_law_found", (P 162 4 14)⟩ (.v (.lst .nil (P 162 17 19))) (P 162 4 19))
def c25_0 : E :=
   (.comp (.call 22 "_law_draw" (P 164 33 42) (.share 0 "_law_pot_here" (P 164 43 56) (.val (.con (.int 4) 0 (P 164 58 59)) .nil)) (P 164 33 60)) (.nm 3 "_law_more" (P 164 65 74)) (.rng (.call 22 "_law_draw" (P 164 84 93) (.share 0 "_law_pot_here" (P 164 94 107) (.val (.con (.int 4) 0 (P 164 109 110)) .nil)) (P 164 84 111)) (P 164 78 83) (P 164 78 112)) .nil ⟨.function, [(".0", .local), ("_law_more", .local), ("_law_draw", .globalImplicit), ("_law_pot_here", .free)], false, false, []⟩ [("_law_more", 3)] (P 164 32 113))
def u25_0 : T :=
   (.set ⟨4, "_law_fresh", (P 164 8 18)⟩ (.v (.ss (P 164 21 27) (P 164 28 31) c25_0 (P 164 28 114) (P 164 21 115))) (P 164 8 115))
def c25_1 : E :=
   (.comp (.ss (P 165 36 42) (P 165 43 46) (.bin (.var 6 "_law_one" (P 165 47 55)) .Add (.var 4 "_law_fresh" (P 165 58 68)) (P 165 47 68)) (P 165 43 69) (P 165 36 70)) (.nm 6 "_law_one" (P 165 75 83)) (.e (.var 1 "_law_found" (P 165 87 97))) .nil ⟨.function, [(".0", .local), ("_law_one", .local), ("sorted", .globalImplicit), ("set", .globalImplicit), ("_law_fresh", .free)], false, false, []⟩ [("_law_one", 6)] (P 165 35 98))
def u25_1 : T :=
   (.set ⟨3, "_law_more", (P 165 8 17)⟩ (.v (.bin (.lst (.cons (.var 4 "_law_fresh" (P 165 21 31)) .nil) (P 165 20 32)) .Add c25_1 (P 165 20 98))) (P 165 8 98))
def c25_2 : E :=
   (.comp (.var 6 "_law_one" (P 166 34 42)) (.tp (.cons (.nm 7 "_law_at" (P 166 47 54)) (.cons (.nm 6 "_law_one" (P 166 56 64)) .nil)) 0 (P 166 47 64)) (.enu (.var 3 "_law_more" (P 166 78 87)) (P 166 68 77) (P 166 68 88)) (.cons (.bop .And (.cmp (.var 6 "_law_one" (P 166 92 100)) .NotIn (.var 1 "_law_found" (P 166 108 118)) (P 166 92 118)) (.cons (.cmp (.var 6 "_law_one" (P 166 123 131)) .NotIn (.sl (.var 3 "_law_more" (P 166 139 148)) .no (.yes (.var 7 "_law_at" (P 166 150 157))) (P 166 149 157) (P 166 139 158)) (P 166 123 158)) .nil) (P 166 92 158)) .nil) ⟨.function, [(".0", .local), ("_law_at", .local), ("_law_one", .local), ("_law_found", .free), ("_law_more", .free)], false, false, []⟩ [("_law_at", 7), ("_law_one", 6)] (P 166 33 159))
def u25_2 : T :=
   (.set ⟨5, "_law_some", (P 166 8 17)⟩ (.v (.bin (.var 1 "_law_found" (P 166 20 30)) .Add c25_2 (P 166 20 159))) (P 166 8 159))
def u25_3 : T :=
   (.set ⟨1, "_law_found", (P 167 8 18)⟩ (.v (.ife (.cmp (.bi1 .len (P 167 34 37) (.var 5 "_law_some" (P 167 38 47)) (P 167 34 48)) .Lt (.con (.int 8) 0 (P 167 51 52)) (P 167 34 52)) (.var 5 "_law_some" (P 167 21 30)) (.var 1 "_law_found" (P 167 58 68)) (P 167 21 68))) (P 167 8 68))
def s25_0 : Ts :=
   (.cons u25_0 (.cons u25_1 (.cons u25_2 (.cons u25_3 .nil))))
def t25_1 : T :=
   (.for (.nm 2 "_law_turn" (P 163 8 17)) (.rng (.bin (.con (.int 1) 0 (P 163 27 28)) .Add (.call 22 "_law_draw" (P 163 31 40) (.share 0 "_law_pot_here" (P 163 41 54) (.val (.con (.int 5) 0 (P 163 56 57)) .nil)) (P 163 31 58)) (P 163 27 58)) (P 163 21 26) (P 163 21 59)) s25_0 ⟨163, 4, 167, 68⟩)
def t25_2 : T :=
   (.ret (.call 24 "_law_mixed" (P 168 11 21) (.share 0 "_law_pot_here" (P 168 22 35) (.share 1 "_law_found" (P 168 37 47) .nil)) (P 168 11 48)) (P 168 4 48))
def b25 : Ts :=
   (.cons t25_0 (.cons t25_1 (.cons t25_2 .nil)))
def d25 : DI := ⟨"_law_lots", "_law_lots", none, true, ["_law_pot_here"], ["_law_pot_here", "_law_found", "_law_turn", "_law_more", "_law_fresh", "_law_some", "_law_one", "_law_at"], defArgs (topS 41), ⟨.function, [("_law_pot_here", .cell), ("_law_found", .cell), ("_law_turn", .local), ("_law_more", .cell), ("_law_fresh", .cell), ("_law_some", .local), ("range", .globalImplicit), ("_law_draw", .globalImplicit), ("sorted", .globalImplicit), ("set", .globalImplicit), ("enumerate", .globalImplicit), ("len", .globalImplicit), ("_law_mixed", .globalImplicit)], false, false, [("fast", .str "_law_pot_here"), ("fast", .str "_law_found"), ("fast", .str "_law_turn"), ("fast", .str "_law_more"), ("fast", .str "_law_fresh"), ("fast", .str "_law_one"), ("fast", .str "_law_at"), ("fast", .str "_law_some")]⟩, b25⟩
/-- _law_melting -/
def t26_0 : T :=
   (.set ⟨1, "_law_lots_here", (P 170 4 18)⟩ (.v (.call 25 "_law_lots" (P 170 21 30) (.share 0 "_law_pot_here" (P 170 31 44) .nil) (P 170 21 45))) (P 170 4 45))
def c26_0 : E :=
   (.comp (.idx (.var 1 "_law_lots_here" (P 171 13 27)) (P 171 13 33) (.ss (P 171 34 40) (P 171 41 44) (.bin (.var 2 "_law_one" (P 171 45 53)) .Add (.var 3 "_law_other" (P 171 56 66)) (P 171 45 66)) (P 171 41 67) (P 171 34 68)) (P 171 13 69)) (.nm 3 "_law_other" (P 171 74 84)) (.e (.var 1 "_law_lots_here" (P 171 88 102))) .nil ⟨.function, [(".0", .local), ("_law_other", .local), ("sorted", .globalImplicit), ("set", .globalImplicit), ("_law_lots_here", .free), ("_law_one", .free)], false, false, []⟩ [("_law_other", 3)] (P 171 12 103))
def c26_1 : E :=
   (.comp c26_0 (.nm 2 "_law_one" (P 171 108 116)) (.e (.var 1 "_law_lots_here" (P 171 120 134))) .nil ⟨.function, [(".0", .local), ("_law_one", .cell), ("_law_lots_here", .free)], false, false, []⟩ [("_law_one", 2)] (P 171 11 135))
def t26_1 : T :=
   (.retO (.oo c26_1) (P 171 4 135))
def b26 : Ts :=
   (.cons t26_0 (.cons t26_1 .nil))
def d26 : DI := ⟨"_law_melting", "_law_melting", none, true, ["_law_pot_here"], ["_law_pot_here", "_law_lots_here", "_law_one", "_law_other"], defArgs (topS 42), ⟨.function, [("_law_pot_here", .local), ("_law_lots_here", .cell), ("_law_lots", .globalImplicit)], false, false, [("fast", .str "_law_pot_here"), ("fast", .str "_law_lots_here"), ("fast", .str "_law_one"), ("fast", .str "_law_other")]⟩, b26⟩
/-- are_firm -/
def t27_0 : T :=
   (.exp (.call 5 "want_melting" (P 123 4 16) (.share 0 "table" (P 123 17 22) .nil) (P 123 4 23)) (P 123 4 23))
def t27_1 : T :=
   (.exp (.call 13 "want_thresholds" (P 124 4 19) (.share 0 "table" (P 124 20 25) (.share 1 "thresholds" (P 124 27 37) .nil)) (P 124 4 38)) (P 124 4 38))
def t27_2 : T :=
   (.ret (.cmp (.call 20 "loose_pair" (P 125 11 21) (.share 0 "table" (P 125 22 27) (.share 1 "thresholds" (P 125 29 39) .nil)) (P 125 11 40)) .Is (.con .none 0 (P 125 44 48)) (P 125 11 48)) (P 125 4 48))
def b27 : Ts :=
   (.cons t27_0 (.cons t27_1 (.cons t27_2 .nil)))
def d27 : DI := ⟨"are_firm", "are_firm", none, true, ["table", "thresholds"], ["table", "thresholds"], defArgs (topS 32), ⟨.function, [("table", .local), ("thresholds", .local), ("want_melting", .globalImplicit), ("want_thresholds", .globalImplicit), ("loose_pair", .globalImplicit)], false, false, []⟩, b27⟩
/-- unlike_showers -/
def t28_0 : T :=
   (.exp (.call 5 "want_melting" (P 127 4 16) (.share 0 "table" (P 127 17 22) .nil) (P 127 4 23)) (P 127 4 23))
def t28_1 : T :=
   (.exp (.call 13 "want_thresholds" (P 128 4 19) (.share 0 "table" (P 128 20 25) (.share 1 "thresholds" (P 128 27 37) .nil)) (P 128 4 38)) (P 128 4 38))
def t28_2 : T :=
   (.set ⟨2, "pair", (P 129 4 8)⟩ (.v (.call 20 "loose_pair" (P 129 11 21) (.share 0 "table" (P 129 22 27) (.share 1 "thresholds" (P 129 29 39) .nil)) (P 129 11 40))) (P 129 4 40))
def t28_3 : T :=
   (.retO (.ife (.cmp (.var 2 "pair" (P 130 19 23)) .Is (.con .none 0 (P 130 27 31)) (P 130 19 31)) (.v (.con .none 0 (P 130 11 15))) (.dt [(.o (.lst (.cons (.sub (.var 2 "pair" (P 130 39 43)) (.con (.int 0) 0 (P 130 44 45)) (P 130 39 46)) (.cons (.sub (.var 2 "pair" (P 130 48 52)) (.con (.int 1) 0 (P 130 53 54)) (P 130 48 55)) .nil)) (P 130 38 56))), (.o (.lst (.cons (.sub (.var 2 "pair" (P 130 59 63)) (.con (.int 1) 0 (P 130 64 65)) (P 130 59 66)) (.cons (.sub (.var 2 "pair" (P 130 68 72)) (.con (.int 0) 0 (P 130 73 74)) (P 130 68 75)) .nil)) (P 130 58 76)))] 0 (P 130 37 77)) (P 130 11 77)) (P 130 4 77))
def b28 : Ts :=
   (.cons t28_0 (.cons t28_1 (.cons t28_2 (.cons t28_3 .nil))))
def d28 : DI := ⟨"unlike_showers", "unlike_showers", none, true, ["table", "thresholds"], ["table", "thresholds", "pair"], defArgs (topS 33), ⟨.function, [("table", .local), ("thresholds", .local), ("pair", .local), ("want_melting", .globalImplicit), ("want_thresholds", .globalImplicit), ("loose_pair", .globalImplicit)], false, false, []⟩, b28⟩
/-- is_shower -/
def c29_0 : E :=
   (.comp (.call 9 "is_value" (P 132 54 62) (.share 0 "table" (P 132 63 68) (.share 2 "one" (P 132 70 73) .nil)) (P 132 54 74)) (.nm 2 "one" (P 132 79 82)) (.e (.var 1 "value" (P 132 86 91))) .nil ⟨.function, [(".0", .local), ("one", .local), ("is_value", .globalImplicit), ("table", .free)], false, false, []⟩ [("one", 2)] (P 132 53 92))
def t29_0 : T :=
   (.ret (.bop .And (.call 1 "is_list" (P 132 11 18) (.share 1 "value" (P 132 19 24) .nil) (P 132 11 25)) (.cons (.cmp (.bi1 .len (P 132 30 33) (.var 1 "value" (P 132 34 39)) (P 132 30 40)) .Gt (.con (.int 0) 0 (P 132 43 44)) (P 132 30 44)) (.cons (.bi1 .all (P 132 49 52) c29_0 (P 132 49 93)) .nil)) (P 132 11 93)) (P 132 4 93))
def b29 : Ts :=
   (.cons t29_0 .nil)
def d29 : DI := ⟨"is_shower", "is_shower", none, true, ["table", "value"], ["table", "value", "one"], defArgs (topS 34), ⟨.function, [("table", .cell), ("value", .local), ("is_list", .globalImplicit), ("len", .globalImplicit), ("all", .globalImplicit)], false, false, [("fast", .str "table"), ("fast", .str "value"), ("fast", .str "one")]⟩, b29⟩
/-- are_unlike_showers -/
def t30_0 : T :=
   (.exp (.call 5 "want_melting" (P 134 4 16) (.share 0 "table" (P 134 17 22) .nil) (P 134 4 23)) (P 134 4 23))
def t30_1 : T :=
   (.exp (.call 13 "want_thresholds" (P 135 4 19) (.share 0 "table" (P 135 20 25) (.share 1 "thresholds" (P 135 27 37) .nil)) (P 135 4 38)) (P 135 4 38))
def c30_0 : E :=
   (.comp (.call 29 "is_shower" (P 136 68 77) (.share 0 "table" (P 136 78 83) (.share 5 "shower" (P 136 85 91) .nil)) (P 136 68 92)) (.nm 5 "shower" (P 136 97 103)) (.e (.var 2 "value" (P 136 107 112))) .nil ⟨.function, [(".0", .local), ("shower", .local), ("is_shower", .globalImplicit), ("table", .free)], false, false, []⟩ [("shower", 5)] (P 136 67 113))
def u30_0 : T :=
   (.ret (.con (.bool false) 0 (P 137 15 20)) (P 137 8 20))
def s30_0 : Ts :=
   (.cons u30_0 .nil)
def t30_2 : T :=
   (.iff (.bop .Or (.una .Not (.isi (.var 2 "value" (P 136 22 27)) .tuple (P 136 11 21) (P 136 29 34) (P 136 11 35)) (P 136 7 35)) (.cons (.cmp (.bi1 .len (P 136 39 42) (.var 2 "value" (P 136 43 48)) (P 136 39 49)) .NotEq (.con (.int 2) 0 (P 136 53 54)) (P 136 39 54)) (.cons (.una .Not (.bi1 .all (P 136 63 66) c30_0 (P 136 63 114)) (P 136 59 114)) .nil)) (P 136 7 115)) s30_0 .nil ⟨136, 4, 137, 20⟩)
def t30_3 : T :=
   (.asg (.tp (.cons (.nm 3 "one" (P 138 4 7)) (.cons (.nm 4 "other" (P 138 9 14)) .nil)) 0 (P 138 4 14)) (.var 2 "value" (P 138 17 22)) (P 138 4 22))
def u30_1 : T :=
   (.ret (.con (.bool false) 0 (P 140 15 20)) (P 140 8 20))
def s30_1 : Ts :=
   (.cons u30_1 .nil)
def t30_4 : T :=
   (.iff (.bop .Or (.sne (P 139 7 10) (.var 3 "one" (P 139 11 14)) (P 139 7 15) (P 139 19 22) (.var 4 "other" (P 139 23 28)) (P 139 19 29) (P 139 7 29)) (.cons (.cmp (.call 8 "joined" (P 139 33 39) (.share 0 "table" (P 139 40 45) (.share 3 "one" (P 139 47 50) .nil)) (P 139 33 51)) .Eq (.call 12 "greatest_of" (P 139 55 66) (.share 0 "table" (P 139 67 72) .nil) (P 139 55 73)) (P 139 33 73)) .nil) (P 139 7 73)) s30_1 .nil ⟨139, 4, 140, 20⟩)
def t30_5 : T :=
   (.ret (.cmp (.call 15 "read_along" (P 141 11 21) (.share 0 "table" (P 141 22 27) (.share 1 "thresholds" (P 141 29 39) (.share 3 "one" (P 141 41 44) .nil))) (P 141 11 45)) .NotEq (.call 15 "read_along" (P 141 49 59) (.share 0 "table" (P 141 60 65) (.share 1 "thresholds" (P 141 67 77) (.share 4 "other" (P 141 79 84) .nil))) (P 141 49 85)) (P 141 11 85)) (P 141 4 85))
def b30 : Ts :=
   (.cons t30_0 (.cons t30_1 (.cons t30_2 (.cons t30_3 (.cons t30_4 (.cons t30_5 .nil))))))
def d30 : DI := ⟨"are_unlike_showers", "are_unlike_showers", none, true, ["table", "thresholds", "value"], ["table", "thresholds", "value", "one", "other", "shower"], defArgs (topS 35), ⟨.function, [("table", .cell), ("thresholds", .local), ("value", .local), ("one", .local), ("other", .local), ("want_melting", .globalImplicit), ("want_thresholds", .globalImplicit), ("isinstance", .globalImplicit), ("tuple", .globalImplicit), ("len", .globalImplicit), ("all", .globalImplicit), ("set", .globalImplicit), ("joined", .globalImplicit), ("greatest_of", .globalImplicit), ("read_along", .globalImplicit)], false, false, [("fast", .str "table"), ("fast", .str "thresholds"), ("fast", .str "value"), ("fast", .str "shower"), ("fast", .str "one"), ("fast", .str "other")]⟩, b30⟩
/-- _law_join -/
def t31_0 : T :=
   (.set ⟨2, "_law_found", (P 190 4 14)⟩ (.v (.sub (.var 1 "_law_values" (P 190 17 28)) (.con (.int 0) 0 (P 190 29 30)) (P 190 17 31))) (P 190 4 31))
def u31_0 : T :=
   (.set ⟨2, "_law_found", (P 192 8 18)⟩ (.v (.sub (.sub (.var 0 "_law_rows" (P 192 21 30)) (.var 2 "_law_found" (P 192 31 41)) (P 192 21 42)) (.var 3 "_law_value" (P 192 43 53)) (P 192 21 54))) (P 192 8 54))
def s31_0 : Ts :=
   (.cons u31_0 .nil)
def t31_1 : T :=
   (.for (.nm 3 "_law_value" (P 191 8 18)) (.e (.sl (.var 1 "_law_values" (P 191 22 33)) (.yes (.con (.int 1) 0 (P 191 34 35))) .no (P 191 34 36) (P 191 22 37))) s31_0 ⟨191, 4, 192, 54⟩)
def t31_2 : T :=
   (.ret (.var 2 "_law_found" (P 193 11 21)) (P 193 4 21))
def b31 : Ts :=
   (.cons t31_0 (.cons t31_1 (.cons t31_2 .nil)))
def d31 : DI := ⟨"_law_join", "_law_join", none, true, ["_law_rows", "_law_values"], ["_law_rows", "_law_values", "_law_found", "_law_value"], defArgs (topS 45), ⟨.function, [("_law_rows", .local), ("_law_values", .local), ("_law_found", .local), ("_law_value", .local)], false, false, []⟩, b31⟩
/-- _law_read -/
def t32_0 : T :=
   (.set ⟨3, "_law_here", (P 218 4 13)⟩ (.v (.sub (.var 2 "_law_shower" (P 218 16 27)) (.con (.int 0) 0 (P 218 28 29)) (P 218 16 30))) (P 218 4 30))
def u32_0 : T :=
   (.set ⟨3, "_law_here", (P 220 8 17)⟩ (.v (.sub (.sub (.var 0 "_law_rows" (P 220 20 29)) (.var 3 "_law_here" (P 220 30 39)) (P 220 20 40)) (.var 4 "_law_value" (P 220 41 51)) (P 220 20 52))) (P 220 8 52))
def c32_0 : E :=
   (.comp (.var 6 "_law_one" (P 221 29 37)) (.nm 6 "_law_one" (P 221 42 50)) (.e (.var 1 "_law_thresholds" (P 221 54 69))) (.cons (.cmp (.sub (.sub (.var 0 "_law_rows" (P 221 73 82)) (.var 6 "_law_one" (P 221 83 91)) (P 221 73 92)) (.var 3 "_law_here" (P 221 93 102)) (P 221 73 103)) .Eq (.var 3 "_law_here" (P 221 107 116)) (P 221 73 116)) .nil) ⟨.function, [(".0", .local), ("_law_one", .local), ("_law_here", .free), ("_law_rows", .free)], false, false, []⟩ [("_law_one", 6)] (P 221 28 117))
def u32_1 : T :=
   (.set ⟨5, "_law_found", (P 221 8 18)⟩ (.v (.srt (P 221 21 27) c32_0 (P 221 21 118))) (P 221 8 118))
def u32_2 : T :=
   (.ret (.var 5 "_law_found" (P 223 19 29)) (P 223 12 29))
def s32_0 : Ts :=
   (.cons u32_2 .nil)
def u32_3 : T :=
   (.iff (.cmp (.var 5 "_law_found" (P 222 11 21)) .NotEq (.lst .nil (P 222 25 27)) (P 222 11 27)) s32_0 .nil ⟨222, 8, 223, 29⟩)
def s32_1 : Ts :=
   (.cons u32_0 (.cons u32_1 (.cons u32_3 .nil)))
def t32_1 : T :=
   (.for (.nm 4 "_law_value" (P 219 8 18)) (.e (.var 2 "_law_shower" (P 219 22 33))) s32_1 ⟨219, 4, 223, 29⟩)
def t32_2 : T :=
   (.ret (.con .none 0 (P 224 11 15)) (P 224 4 15))
def b32 : Ts :=
   (.cons t32_0 (.cons t32_1 (.cons t32_2 .nil)))
def d32 : DI := ⟨"_law_read", "_law_read", none, true, ["_law_rows", "_law_thresholds", "_law_shower"], ["_law_rows", "_law_thresholds", "_law_shower", "_law_here", "_law_value", "_law_found", "_law_one"], defArgs (topS 52), ⟨.function, [("_law_rows", .cell), ("_law_thresholds", .local), ("_law_shower", .local), ("_law_here", .cell), ("_law_value", .local), ("_law_found", .local), ("sorted", .globalImplicit)], false, false, [("fast", .str "_law_rows"), ("fast", .str "_law_thresholds"), ("fast", .str "_law_shower"), ("fast", .str "_law_here"), ("fast", .str "_law_value"), ("fast", .str "_law_one"), ("fast", .str "_law_found")]⟩, b32⟩
/-- _law_is_shower -/
def u33_0 : T :=
   (.ret (.con (.bool false) 0 (P 227 15 20)) (P 227 8 20))
def s33_0 : Ts :=
   (.cons u33_0 .nil)
def t33_0 : T :=
   (.iff (.bop .Or (.una .Not (.isiT (.var 1 "_law_thing" (P 226 22 32)) [(.list, (P 226 35 39)), (.tuple, (P 226 41 46))] 0 (P 226 11 21) (P 226 34 47) (P 226 11 48)) (P 226 7 48)) (.cons (.cmp (.bi1 .len (P 226 52 55) (.var 1 "_law_thing" (P 226 56 66)) (P 226 52 67)) .Eq (.con (.int 0) 0 (P 226 71 72)) (P 226 52 72)) .nil) (P 226 7 72)) s33_0 .nil ⟨226, 4, 227, 20⟩)
def c33_0 : E :=
   (.comp (.bop .And (.isi (.var 2 "_law_one" (P 228 27 35)) .int (P 228 16 26) (P 228 37 40) (P 228 16 41)) (.cons (.cmp (.var 2 "_law_one" (P 228 46 54)) .IsNot (.con (.bool true) 0 (P 228 62 66)) (P 228 46 66)) (.cons (.cmp (.var 2 "_law_one" (P 228 72 80)) .IsNot (.con (.bool false) 0 (P 228 88 93)) (P 228 72 93)) .nil)) (P 228 16 94)) (.nm 2 "_law_one" (P 228 99 107)) (.e (.var 1 "_law_thing" (P 228 111 121))) .nil ⟨.function, [(".0", .local), ("_law_one", .local), ("isinstance", .globalImplicit), ("int", .globalImplicit)], false, false, []⟩ [("_law_one", 2)] (P 228 15 122))
def u33_1 : T :=
   (.ret (.con (.bool false) 0 (P 229 15 20)) (P 229 8 20))
def s33_1 : Ts :=
   (.cons u33_1 .nil)
def t33_1 : T :=
   (.iff (.una .Not (.bi1 .all (P 228 11 14) c33_0 (P 228 11 123)) (P 228 7 123)) s33_1 .nil ⟨228, 4, 229, 20⟩)
def c33_1 : E :=
   (.comp (.cmp2 (.con (.int 0) 0 (P 230 16 17)) .LtE (.var 2 "_law_one" (P 230 21 29)) .Lt (.bi1 .len (P 230 32 35) (.var 0 "_law_rows" (P 230 36 45)) (P 230 32 46)) (P 230 16 46)) (.nm 2 "_law_one" (P 230 51 59)) (.e (.var 1 "_law_thing" (P 230 63 73))) .nil ⟨.function, [(".0", .local), ("_law_one", .local), ("len", .globalImplicit), ("_law_rows", .free)], false, false, []⟩ [("_law_one", 2)] (P 230 15 74))
def t33_2 : T :=
   (.ret (.bi1 .all (P 230 11 14) c33_1 (P 230 11 75)) (P 230 4 75))
def b33 : Ts :=
   (.cons t33_0 (.cons t33_1 (.cons t33_2 .nil)))
def d33 : DI := ⟨"_law_is_shower", "_law_is_shower", none, true, ["_law_rows", "_law_thing"], ["_law_rows", "_law_thing", "_law_one"], defArgs (topS 53), ⟨.function, [("_law_rows", .cell), ("_law_thing", .local), ("isinstance", .globalImplicit), ("list", .globalImplicit), ("tuple", .globalImplicit), ("len", .globalImplicit), ("all", .globalImplicit)], false, false, [("fast", .str "_law_rows"), ("fast", .str "_law_thing"), ("fast", .str "_law_one")]⟩, b33⟩
/-- _law_are_unlike -/
def c34_0 : E :=
   (.comp (.call 33 "_law_is_shower" (P 232 78 92) (.share 0 "_law_rows" (P 232 93 102) (.share 6 "_law_part" (P 232 104 113) .nil)) (P 232 78 114)) (.nm 6 "_law_part" (P 232 119 128)) (.e (.var 3 "_law_thing" (P 232 132 142))) .nil ⟨.function, [(".0", .local), ("_law_part", .local), ("_law_is_shower", .globalImplicit), ("_law_rows", .free)], false, false, []⟩ [("_law_part", 6)] (P 232 77 143))
def u34_0 : T :=
   (.ret (.con (.bool false) 0 (P 233 15 20)) (P 233 8 20))
def s34_0 : Ts :=
   (.cons u34_0 .nil)
def t34_0 : T :=
   (.iff (.bop .Or (.una .Not (.isi (.var 3 "_law_thing" (P 232 22 32)) .tuple (P 232 11 21) (P 232 34 39) (P 232 11 40)) (P 232 7 40)) (.cons (.cmp (.bi1 .len (P 232 44 47) (.var 3 "_law_thing" (P 232 48 58)) (P 232 44 59)) .NotEq (.con (.int 2) 0 (P 232 63 64)) (P 232 44 64)) (.cons (.una .Not (.bi1 .all (P 232 73 76) c34_0 (P 232 73 144)) (P 232 69 144)) .nil)) (P 232 7 145)) s34_0 .nil ⟨232, 4, 233, 20⟩)
def t34_1 : T :=
   (.par [⟨4, "_law_one", (P 234 4 12)⟩, ⟨5, "_law_other", (P 234 14 24)⟩] 0 (P 234 4 24) [(.v (.conv .list (P 234 28 32) (.sub (.var 3 "_law_thing" (P 234 33 43)) (.con (.int 0) 0 (P 234 44 45)) (P 234 33 46)) (P 234 28 47))), (.v (.conv .list (P 234 49 53) (.sub (.var 3 "_law_thing" (P 234 54 64)) (.con (.int 1) 0 (P 234 65 66)) (P 234 54 67)) (P 234 49 68)))] 0 (P 234 27 69) (P 234 4 69))
def u34_1 : T :=
   (.ret (.con (.bool false) 0 (P 236 15 20)) (P 236 8 20))
def s34_1 : Ts :=
   (.cons u34_1 .nil)
def t34_2 : T :=
   (.iff (.bop .Or (.sne (P 235 7 10) (.var 4 "_law_one" (P 235 11 19)) (P 235 7 20) (P 235 24 27) (.var 5 "_law_other" (P 235 28 38)) (P 235 24 39) (P 235 7 39)) (.cons (.cmp (.call 31 "_law_join" (P 235 43 52) (.share 0 "_law_rows" (P 235 53 62) (.share 4 "_law_one" (P 235 64 72) .nil)) (P 235 43 73)) .Eq (.var 1 "_law_clash" (P 235 77 87)) (P 235 43 87)) .nil) (P 235 7 87)) s34_1 .nil ⟨235, 4, 236, 20⟩)
def t34_3 : T :=
   (.ret (.cmp (.call 32 "_law_read" (P 237 11 20) (.share 0 "_law_rows" (P 237 21 30) (.share 2 "_law_thresholds" (P 237 32 47) (.share 4 "_law_one" (P 237 49 57) .nil))) (P 237 11 58)) .NotEq (.call 32 "_law_read" (P 237 62 71) (.share 0 "_law_rows" (P 237 72 81) (.share 2 "_law_thresholds" (P 237 83 98) (.share 5 "_law_other" (P 237 100 110) .nil))) (P 237 62 111)) (P 237 11 111)) (P 237 4 111))
def b34 : Ts :=
   (.cons t34_0 (.cons t34_1 (.cons t34_2 (.cons t34_3 .nil))))
def d34 : DI := ⟨"_law_are_unlike", "_law_are_unlike", none, true, ["_law_rows", "_law_clash", "_law_thresholds", "_law_thing"], ["_law_rows", "_law_clash", "_law_thresholds", "_law_thing", "_law_one", "_law_other", "_law_part"], defArgs (topS 54), ⟨.function, [("_law_rows", .cell), ("_law_clash", .local), ("_law_thresholds", .local), ("_law_thing", .local), ("_law_one", .local), ("_law_other", .local), ("isinstance", .globalImplicit), ("tuple", .globalImplicit), ("len", .globalImplicit), ("all", .globalImplicit), ("list", .globalImplicit), ("set", .globalImplicit), ("_law_join", .globalImplicit), ("_law_read", .globalImplicit)], false, false, [("fast", .str "_law_rows"), ("fast", .str "_law_clash"), ("fast", .str "_law_thresholds"), ("fast", .str "_law_thing"), ("fast", .str "_law_part"), ("fast", .str "_law_one"), ("fast", .str "_law_other")]⟩, b34⟩
/-- _law_two -/
def c35_0 : E :=
   (.comp (.call 22 "_law_draw" (P 239 17 26) (.share 0 "_law_pot_here" (P 239 27 40) (.val (.bi1 .len (P 239 42 45) (.var 1 "_law_rows" (P 239 46 55)) (P 239 42 56)) .nil)) (P 239 17 57)) (.nm 3 "_law_turn" (P 239 62 71)) (.rng (.bin (.con (.int 1) 0 (P 239 81 82)) .Add (.call 22 "_law_draw" (P 239 85 94) (.share 0 "_law_pot_here" (P 239 95 108) (.val (.con (.int 4) 0 (P 239 110 111)) .nil)) (P 239 85 112)) (P 239 81 112)) (P 239 75 80) (P 239 75 113)) .nil ⟨.function, [(".0", .local), ("_law_turn", .local), ("_law_draw", .globalImplicit), ("len", .globalImplicit), ("_law_pot_here", .free), ("_law_rows", .free)], false, false, []⟩ [("_law_turn", 3)] (P 239 16 114))
def t35_0 : T :=
   (.set ⟨2, "_law_some", (P 239 4 13)⟩ (.v c35_0) (P 239 4 114))
def c35_1 : E :=
   (.comp (.call 23 "_law_pick" (P 240 89 98) (.share 0 "_law_pot_here" (P 240 99 112) (.share 2 "_law_some" (P 240 114 123) .nil)) (P 240 89 124)) (.nm 3 "_law_turn" (P 240 129 138)) (.rng (.call 22 "_law_draw" (P 240 148 157) (.share 0 "_law_pot_here" (P 240 158 171) (.val (.con (.int 3) 0 (P 240 173 174)) .nil)) (P 240 148 175)) (P 240 142 147) (P 240 142 176)) .nil ⟨.function, [(".0", .local), ("_law_turn", .local), ("_law_pick", .globalImplicit), ("_law_pot_here", .free), ("_law_some", .free)], false, false, []⟩ [("_law_turn", 3)] (P 240 88 177))
def t35_1 : T :=
   (.ret (.tup (.cons (.call 24 "_law_mixed" (P 240 12 22) (.share 0 "_law_pot_here" (P 240 23 36) (.share 2 "_law_some" (P 240 38 47) .nil)) (P 240 12 48)) (.cons (.call 24 "_law_mixed" (P 240 50 60) (.share 0 "_law_pot_here" (P 240 61 74) (.val (.bin (.var 2 "_law_some" (P 240 76 85)) .Add c35_1 (P 240 76 177)) .nil)) (P 240 50 178)) .nil)) 0 (P 240 11 179)) (P 240 4 179))
def b35 : Ts :=
   (.cons t35_0 (.cons t35_1 .nil))
def d35 : DI := ⟨"_law_two", "_law_two", none, true, ["_law_pot_here", "_law_rows"], ["_law_pot_here", "_law_rows", "_law_some", "_law_turn"], defArgs (topS 55), ⟨.function, [("_law_pot_here", .cell), ("_law_rows", .cell), ("_law_some", .cell), ("range", .globalImplicit), ("_law_draw", .globalImplicit), ("_law_mixed", .globalImplicit)], false, false, [("fast", .str "_law_pot_here"), ("fast", .str "_law_rows"), ("fast", .str "_law_turn"), ("fast", .str "_law_some")]⟩, b35⟩
/-- _law_firm_right -/
def t36_0 : T :=
   (.set ⟨5, "_law_is_firm", (P 242 4 16)⟩ (.v (.con (.bool true) 0 (P 242 19 23))) (P 242 4 23))
def c36_0 : E :=
   (.comp (.cmp (.sub (.sub (.var 2 "_law_rows" (P 244 45 54)) (.var 7 "_law_one" (P 244 55 63)) (P 244 45 64)) (.var 8 "_law_other" (P 244 65 75)) (P 244 45 76)) .Eq (.var 3 "_law_clash" (P 244 80 90)) (P 244 45 90)) (.nm 8 "_law_other" (P 244 95 105)) (.e (.sl (.var 4 "_law_thresholds" (P 244 109 124)) .no (.yes (.var 6 "_law_at" (P 244 126 133))) (P 244 125 133) (P 244 109 134))) .nil ⟨.function, [(".0", .local), ("_law_other", .local), ("_law_clash", .free), ("_law_one", .free), ("_law_rows", .free)], false, false, []⟩ [("_law_other", 8)] (P 244 44 135))
def u36_0 : T :=
   (.set ⟨5, "_law_is_firm", (P 244 8 20)⟩ (.v (.bop .And (.var 5 "_law_is_firm" (P 244 23 35)) (.cons (.bi1 .all (P 244 40 43) c36_0 (P 244 40 136)) .nil) (P 244 23 136))) (P 244 8 136))
def s36_0 : Ts :=
   (.cons u36_0 .nil)
def t36_1 : T :=
   (.for (.tp (.cons (.nm 6 "_law_at" (P 243 8 15)) (.cons (.nm 7 "_law_one" (P 243 17 25)) .nil)) 0 (P 243 8 25)) (.enu (.var 4 "_law_thresholds" (P 243 39 54)) (P 243 29 38) (P 243 29 55)) s36_0 ⟨243, 4, 244, 136⟩)
def t36_2 : T :=
   (.set ⟨9, "_law_told", (P 245 4 13)⟩ (.o (.lst (.cons (.call 27 "are_firm" (P 245 17 25) (.share 1 "_law_table_here" (P 245 26 41) (.share 4 "_law_thresholds" (P 245 43 58) .nil)) (P 245 17 59)) (.cons (.callK 27 "are_firm" (P 245 61 69) (.cons "thresholds" (.conv .tuple (P 245 81 86) (.rev (.var 4 "_law_thresholds" (P 245 87 102)) 0 (P 245 106 107) (P 245 105 107) (P 245 103 107) (P 245 87 108)) (P 245 81 109)) (P 245 70 109) (.cons "table" (.var 1 "_law_table_here" (P 245 117 132)) (P 245 111 132) .nil)) 2 [1, 0] (P 245 61 133)) .nil)) (P 245 16 134))) (P 245 4 134))
def t36_3 : T :=
   (.set ⟨10, "_law_found", (P 246 4 14)⟩ (.oc (.call 28 "unlike_showers" (P 246 17 31) (.share 1 "_law_table_here" (P 246 32 47) (.share 4 "_law_thresholds" (P 246 49 64) .nil)) (P 246 17 65))) (P 246 4 65))
def u36_1 : T :=
   (.ret (.con (.bool false) 0 (P 248 15 20)) (P 248 8 20))
def s36_1 : Ts :=
   (.cons u36_1 .nil)
def t36_4 : T :=
   (.iff (.bop .Or (.cmp (.bv 9 "_law_told" (P 247 7 16)) .NotEq (.lst (.cons (.var 5 "_law_is_firm" (P 247 21 33)) (.cons (.var 5 "_law_is_firm" (P 247 35 47)) .nil)) (P 247 20 48)) (P 247 7 48)) (.cons (.cmp (.cmp (.bv 10 "_law_found" (P 247 53 63)) .Is (.con .none 0 (P 247 67 71)) (P 247 53 71)) .NotEq (.var 5 "_law_is_firm" (P 247 76 88)) (P 247 52 88)) .nil) (P 247 7 88)) s36_1 .nil ⟨247, 4, 248, 20⟩)
def u36_2 : T :=
   (.ret (.con (.bool false) 0 (P 250 15 20)) (P 250 8 20))
def s36_2 : Ts :=
   (.cons u36_2 .nil)
def t36_5 : T :=
   (.iff (.cmp (.cmp (.callK 28 "unlike_showers" (P 249 8 22) (.cons "thresholds" (.var 4 "_law_thresholds" (P 249 34 49)) (P 249 23 49) (.cons "table" (.var 1 "_law_table_here" (P 249 57 72)) (P 249 51 72) .nil)) 2 [1, 0] (P 249 8 73)) .Is (.con .none 0 (P 249 77 81)) (P 249 8 81)) .NotEq (.var 5 "_law_is_firm" (P 249 86 98)) (P 249 7 98)) s36_2 .nil ⟨249, 4, 250, 20⟩)
def c36_1 : E :=
   (.comp (.call 35 "_law_two" (P 251 17 25) (.share 0 "_law_pot_here" (P 251 26 39) (.share 2 "_law_rows" (P 251 41 50) .nil)) (P 251 17 51)) (.nm 17 "_law_turn" (P 251 56 65)) (.rng (.con (.int 4) 0 (P 251 75 76)) (P 251 69 74) (P 251 69 77)) .nil ⟨.function, [(".0", .local), ("_law_turn", .local), ("_law_two", .globalImplicit), ("_law_pot_here", .free), ("_law_rows", .free)], false, false, []⟩ [("_law_turn", 17)] (P 251 16 78))
def t36_6 : T :=
   (.set ⟨11, "_law_some", (P 251 4 13)⟩ (.v c36_1) (P 251 4 78))
def t36_7 : T :=
   (.set ⟨12, "_law_things", (P 252 4 15)⟩ (.o (.bin (.var 11 "_law_some" (P 252 18 27)) .Add (.lst (.cons (.con .none 0 (P 252 31 35)) (.cons (.con (.int 0) 0 (P 252 37 38)) (.cons (.tup .nil 0 (P 252 40 42)) (.cons (.tup (.cons (.lst (.cons (.con (.int 0) 0 (P 252 46 47)) .nil) (P 252 45 48)) .nil) 0 (P 252 44 50)) (.cons (.tup (.cons (.lst (.cons (.con (.int 0) 0 (P 252 54 55)) .nil) (P 252 53 56)) (.cons (.lst .nil (P 252 58 60)) .nil)) 0 (P 252 52 61)) (.cons (.tup (.cons (.lst .nil (P 252 64 66)) (.cons (.lst .nil (P 252 68 70)) .nil)) 0 (P 252 63 71)) (.cons (.tup (.cons (.lst (.cons (.con (.int 0) 0 (P 252 75 76)) .nil) (P 252 74 77)) (.cons (.con .none 0 (P 252 79 83)) .nil)) 0 (P 252 73 84)) (.cons (.tup (.cons (.lst (.cons (.con (.int 0) 0 (P 252 88 89)) .nil) (P 252 87 90)) (.cons (.lst (.cons (.con (.bool true) 0 (P 252 93 97)) .nil) (P 252 92 98)) .nil)) 0 (P 252 86 99)) (.cons (.tup (.cons (.lst (.cons (.con (.int 0) 0 (P 252 103 104)) .nil) (P 252 102 105)) (.cons (.lst (.cons (.bi1 .len (P 252 108 111) (.var 2 "_law_rows" (P 252 112 121)) (P 252 108 122)) .nil) (P 252 107 123)) .nil)) 0 (P 252 101 124)) (.cons (.con (.str "00") 0 (P 252 126 130)) .nil)))))))))) (P 252 30 131)) (P 252 18 131))) (P 252 4 131))
def t36_8 : T :=
   (.exp (.mth1 .append 12 "_law_things" (P 253 4 15) (P 253 4 22) (.tup (.cons (.lst (.cons (.bi1 .len (P 253 25 28) (.var 2 "_law_rows" (P 253 29 38)) (P 253 25 39)) .nil) (P 253 24 40)) (.cons (.lst (.cons (.bi1 .len (P 253 43 46) (.var 2 "_law_rows" (P 253 47 56)) (P 253 43 57)) .nil) (P 253 42 58)) .nil)) 0 (P 253 23 59)) (P 253 4 60)) (P 253 4 60))
def u36_3 : T :=
   (.ret (.con (.bool false) 0 (P 256 19 24)) (P 256 12 24))
def s36_3 : Ts :=
   (.cons u36_3 .nil)
def u36_4 : T :=
   (.iff (.una .Not (.call 34 "_law_are_unlike" (P 255 15 30) (.share 2 "_law_rows" (P 255 31 40) (.share 3 "_law_clash" (P 255 42 52) (.share 4 "_law_thresholds" (P 255 54 69) (.val (.var 10 "_law_found" (P 255 71 81)) .nil)))) (P 255 15 82)) (P 255 11 82)) s36_3 .nil ⟨255, 8, 256, 24⟩)
def u36_5 : T :=
   (.par [⟨7, "_law_one", (P 257 8 16)⟩, ⟨8, "_law_other", (P 257 18 28)⟩] 0 (P 257 8 28) [(.v (.conv .list (P 257 32 36) (.sub (.bv 10 "_law_found" (P 257 37 47)) (.con (.int 0) 0 (P 257 48 49)) (P 257 37 50)) (P 257 32 51))), (.v (.conv .list (P 257 53 57) (.sub (.bv 10 "_law_found" (P 257 58 68)) (.con (.int 1) 0 (P 257 69 70)) (P 257 58 71)) (P 257 53 72)))] 0 (P 257 31 73) (P 257 8 73))
def u36_6 : T :=
   (.set ⟨12, "_law_things", (P 258 8 19)⟩ (.o (.bin (.var 12 "_law_things" (P 258 22 33)) .Add (.lst (.cons (.var 10 "_law_found" (P 258 37 47)) (.cons (.tup (.cons (.var 8 "_law_other" (P 258 50 60)) (.cons (.var 7 "_law_one" (P 258 62 70)) .nil)) 0 (P 258 49 71)) (.cons (.tup (.cons (.var 7 "_law_one" (P 258 74 82)) (.cons (.var 7 "_law_one" (P 258 84 92)) .nil)) 0 (P 258 73 93)) (.cons (.lst (.cons (.var 7 "_law_one" (P 258 96 104)) (.cons (.var 8 "_law_other" (P 258 106 116)) .nil)) (P 258 95 117)) (.cons (.tup (.cons (.bin (.var 7 "_law_one" (P 258 120 128)) .Add (.sl (.var 7 "_law_one" (P 258 131 139)) .no (.yes (.con (.int 1) 0 (P 258 141 142))) (P 258 140 142) (P 258 131 143)) (P 258 120 143)) (.cons (.var 8 "_law_other" (P 258 145 155)) .nil)) 0 (P 258 119 156)) (.cons (.tup (.cons (.var 7 "_law_one" (P 258 159 167)) (.cons (.sl (.var 8 "_law_other" (P 258 169 179)) (.yes (.con (.int 1) 0 (P 258 180 181))) .no (P 258 180 182) (P 258 169 183)) .nil)) 0 (P 258 158 184)) .nil)))))) (P 258 36 185)) (P 258 22 185))) (P 258 8 185))
def u36_7 : T :=
   (.set ⟨12, "_law_things", (P 259 8 19)⟩ (.o (.bin (.var 12 "_law_things" (P 259 22 33)) .Add (.lst (.cons (.tup (.cons (.var 7 "_law_one" (P 259 38 46)) (.cons (.bin (.var 8 "_law_other" (P 259 48 58)) .Add (.lst (.cons (.var 3 "_law_clash" (P 259 62 72)) .nil) (P 259 61 73)) (P 259 48 73)) .nil)) 0 (P 259 37 74)) (.cons (.tup (.cons (.var 7 "_law_one" (P 259 77 85)) (.cons (.var 8 "_law_other" (P 259 87 97)) (.cons (.var 7 "_law_one" (P 259 99 107)) .nil))) 0 (P 259 76 108)) .nil)) (P 259 36 109)) (P 259 22 109))) (P 259 8 109))
def c36_2 : E :=
   (.comp (.ife (.cmp (.var 18 "_law_value" (P 261 46 56)) .Lt (.con (.int 2) 0 (P 261 59 60)) (P 261 46 60)) (.cmp (.var 18 "_law_value" (P 261 27 37)) .Eq (.con (.int 1) 0 (P 261 41 42)) (P 261 27 42)) (.var 18 "_law_value" (P 261 66 76)) (P 261 27 76)) (.nm 18 "_law_value" (P 261 81 91)) (.e (.var 7 "_law_one" (P 261 95 103))) .nil ⟨.function, [(".0", .local), ("_law_value", .local)], false, false, []⟩ [("_law_value", 18)] (P 261 26 104))
def u36_8 : T :=
   (.set ⟨13, "_law_truths", (P 261 12 23)⟩ (.v c36_2) (P 261 12 104))
def u36_9 : T :=
   (.set ⟨12, "_law_things", (P 262 12 23)⟩ (.o (.bin (.var 12 "_law_things" (P 262 26 37)) .Add (.lst (.cons (.tup (.cons (.var 13 "_law_truths" (P 262 42 53)) (.cons (.var 8 "_law_other" (P 262 55 65)) .nil)) 0 (P 262 41 66)) (.cons (.tup (.cons (.var 8 "_law_other" (P 262 69 79)) (.cons (.var 13 "_law_truths" (P 262 81 92)) .nil)) 0 (P 262 68 93)) (.cons (.tup (.cons (.conv .tuple (P 262 96 101) (.var 7 "_law_one" (P 262 102 110)) (P 262 96 111)) (.cons (.conv .tuple (P 262 113 118) (.var 8 "_law_other" (P 262 119 129)) (P 262 113 130)) .nil)) 0 (P 262 95 131)) .nil))) (P 262 40 132)) (P 262 26 132))) (P 262 12 132))
def s36_4 : Ts :=
   (.cons u36_8 (.cons u36_9 .nil))
def u36_10 : T :=
   (.iff (.cmp (.bin (.bi1 .len (P 260 11 14) (.var 7 "_law_one" (P 260 15 23)) (P 260 11 24)) .Add (.bi1 .len (P 260 27 30) (.var 8 "_law_other" (P 260 31 41)) (P 260 27 42)) (P 260 11 42)) .Lt (.con (.int 900) 0 (P 260 45 48)) (P 260 11 48)) s36_4 .nil ⟨260, 8, 262, 132⟩)
def s36_5 : Ts :=
   (.cons u36_4 (.cons u36_5 (.cons u36_6 (.cons u36_7 (.cons u36_10 .nil)))))
def t36_9 : T :=
   (.iff (.cmp (.bv 10 "_law_found" (P 254 7 17)) .IsNot (.con .none 0 (P 254 25 29)) (P 254 7 29)) s36_5 .nil ⟨254, 4, 262, 132⟩)
def u36_11 : T :=
   (.set ⟨15, "_law_due", (P 264 8 16)⟩ (.v (.call 34 "_law_are_unlike" (P 264 19 34) (.share 2 "_law_rows" (P 264 35 44) (.share 3 "_law_clash" (P 264 46 56) (.share 4 "_law_thresholds" (P 264 58 73) (.share 14 "_law_thing" (P 264 75 85) .nil)))) (P 264 19 86))) (P 264 8 86))
def u36_12 : T :=
   (.set ⟨9, "_law_told", (P 265 8 17)⟩ (.o (.lst (.cons (.call 30 "are_unlike_showers" (P 265 21 39) (.share 1 "_law_table_here" (P 265 40 55) (.share 4 "_law_thresholds" (P 265 57 72) (.share 14 "_law_thing" (P 265 74 84) .nil))) (P 265 21 85)) .nil) (P 265 20 86))) (P 265 8 86))
def u36_13 : T :=
   (.exp (.mth1 .append 9 "_law_told" (P 266 8 17) (P 266 8 24) (.callK 30 "are_unlike_showers" (P 266 25 43) (.cons "value" (.var 14 "_law_thing" (P 266 50 60)) (P 266 44 60) (.cons "thresholds" (.var 4 "_law_thresholds" (P 266 73 88)) (P 266 62 88) (.cons "table" (.var 1 "_law_table_here" (P 266 96 111)) (P 266 90 111) .nil))) 3 [2, 1, 0] (P 266 25 112)) (P 266 8 113)) (P 266 8 113))
def u36_14 : T :=
   (.ret (.con (.bool false) 0 (P 268 19 24)) (P 268 12 24))
def s36_6 : Ts :=
   (.cons u36_14 .nil)
def u36_15 : T :=
   (.iff (.bop .Or (.cmp (.bv 9 "_law_told" (P 267 11 20)) .NotEq (.lst (.cons (.var 15 "_law_due" (P 267 25 33)) (.cons (.var 15 "_law_due" (P 267 35 43)) .nil)) (P 267 24 44)) (P 267 11 44)) (.cons (.bop .And (.var 5 "_law_is_firm" (P 267 49 61)) (.cons (.var 15 "_law_due" (P 267 66 74)) .nil) (P 267 49 74)) .nil) (P 267 11 75)) s36_6 .nil ⟨267, 8, 268, 24⟩)
def s36_7 : Ts :=
   (.cons u36_11 (.cons u36_12 (.cons u36_13 (.cons u36_15 .nil))))
def t36_10 : T :=
   (.for (.nm 14 "_law_thing" (P 263 8 18)) (.e (.var 12 "_law_things" (P 263 22 33))) s36_7 ⟨263, 4, 268, 24⟩)
def s36_8 : Ts :=
   (.cons t36_6 (.cons t36_7 (.cons t36_8 (.cons t36_9 (.cons t36_10 .nil)))))
def t36_11 : T :=
   (.spl ⟨10, "_law_found", (P 269 21 31)⟩ 0 (P 269 35 37) (P 269 21 37) ⟨16, "_law_part", (P 269 8 17)⟩ (P 270 11 21) (P 270 22 31) (P 270 33 37) (P 270 11 38) (P 271 12 21) (P 271 12 28) 0 (P 271 29 33) (P 271 12 34) (P 271 12 34) ⟨270, 8, 271, 34⟩ ⟨269, 4, 271, 34⟩)
def t36_12 : T :=
   (.ret (.bop .Or (.var 5 "_law_is_firm" (P 272 11 23)) (.cons (.call 34 "_law_are_unlike" (P 272 27 42) (.share 2 "_law_rows" (P 272 43 52) (.share 3 "_law_clash" (P 272 54 64) (.share 4 "_law_thresholds" (P 272 66 81) (.val (.call 28 "unlike_showers" (P 272 83 97) (.share 1 "_law_table_here" (P 272 98 113) (.share 4 "_law_thresholds" (P 272 115 130) .nil)) (P 272 83 131)) .nil)))) (P 272 27 132)) .nil) (P 272 11 132)) (P 272 4 132))
def b36 : Ts :=
   (.cons t36_0 (.cons t36_1 (.cons t36_2 (.cons t36_3 (.cons t36_4 (.cons t36_5 (.blk 10 [1, 2, 4] s36_8 (.cons t36_11 (.cons t36_12 .nil)))))))))
def d36 : DI := ⟨"_law_firm_right", "_law_firm_right", none, true, ["_law_pot_here", "_law_table_here", "_law_rows", "_law_clash", "_law_thresholds"], ["_law_pot_here", "_law_table_here", "_law_rows", "_law_clash", "_law_thresholds", "_law_is_firm", "_law_at", "_law_one", "_law_other", "_law_told", "_law_found", "_law_some", "_law_things", "_law_truths", "_law_thing", "_law_due", "_law_part", "_law_turn", "_law_value"], defArgs (topS 56), ⟨.function, [("_law_pot_here", .cell), ("_law_table_here", .local), ("_law_rows", .cell), ("_law_clash", .cell), ("_law_thresholds", .local), ("_law_is_firm", .local), ("_law_at", .local), ("_law_one", .cell), ("_law_other", .local), ("_law_told", .local), ("_law_found", .local), ("_law_some", .local), ("_law_things", .local), ("_law_truths", .local), ("_law_thing", .local), ("_law_due", .local), ("_law_part", .local), ("enumerate", .globalImplicit), ("all", .globalImplicit), ("are_firm", .globalImplicit), ("tuple", .globalImplicit), ("unlike_showers", .globalImplicit), ("range", .globalImplicit), ("len", .globalImplicit), ("_law_are_unlike", .globalImplicit), ("list", .globalImplicit), ("are_unlike_showers", .globalImplicit), ("isinstance", .globalImplicit)], false, false, [("fast", .str "_law_pot_here"), ("fast", .str "_law_table_here"), ("fast", .str "_law_rows"), ("fast", .str "_law_clash"), ("fast", .str "_law_thresholds"), ("fast", .str "_law_is_firm"), ("fast", .str "_law_at"), ("fast", .str "_law_one"), ("fast", .str "_law_other"), ("fast", .str "_law_told"), ("fast", .str "_law_found"), ("fast", .str "_law_turn"), ("fast", .str "_law_some"), ("fast", .str "_law_things"), ("fast", .str "_law_value"), ("fast", .str "_law_truths"), ("fast", .str "_law_thing"), ("fast", .str "_law_due"), ("fast", .str "_law_part")]⟩, b36⟩
/-- _law_right -/
def t37_0 : T :=
   (.set ⟨1, "_law_rows", (P 274 4 13)⟩ (.v (.call 26 "_law_melting" (P 274 16 28) (.share 0 "_law_pot_here" (P 274 29 42) .nil) (P 274 16 43))) (P 274 4 43))
def t37_1 : T :=
   (.par [⟨2, "_law_table_here", (P 275 4 19)⟩, ⟨3, "_law_span", (P 275 21 30)⟩] 0 (P 275 4 30) [(.v (.new 0 3 "Table" (P 275 34 39) (.share 1 "_law_rows" (P 275 40 49) .nil) (P 275 34 50))), (.v (.lrng (P 275 52 56) (P 275 57 62) (.bi1 .len (P 275 63 66) (.var 1 "_law_rows" (P 275 67 76)) (P 275 63 77)) (P 275 57 78) (P 275 52 79)))] 0 (P 275 33 80) (P 275 4 80))
def t37_2 : T :=
   (.par [⟨4, "_law_clash", (P 276 4 14)⟩, ⟨5, "_law_apart", (P 276 16 26)⟩] 0 (P 276 4 26) [(.v (.call 31 "_law_join" (P 276 30 39) (.share 1 "_law_rows" (P 276 40 49) (.share 3 "_law_span" (P 276 51 60) .nil)) (P 276 30 61))), (.o (.lst .nil (P 276 63 65)))] 0 (P 276 29 66) (P 276 4 66))
def c37_0 : E :=
   (.comp (.cmp (.sub (.sub (.var 1 "_law_rows" (P 278 47 56)) (.var 6 "_law_value" (P 278 57 67)) (P 278 47 68)) (.var 7 "_law_one" (P 278 69 77)) (P 278 47 78)) .Eq (.var 4 "_law_clash" (P 278 82 92)) (P 278 47 92)) (.nm 7 "_law_one" (P 278 97 105)) (.e (.var 5 "_law_apart" (P 278 109 119))) .nil ⟨.function, [(".0", .local), ("_law_one", .local), ("_law_clash", .free), ("_law_rows", .free), ("_law_value", .free)], false, false, []⟩ [("_law_one", 7)] (P 278 46 120))
def u37_0 : T :=
   (.exr ⟨5, "_law_apart", (P 278 8 18)⟩ (P 278 8 25) (.ife (.bi1 .all (P 278 42 45) c37_0 (P 278 42 121)) (.lst (.cons (.var 6 "_law_value" (P 278 27 37)) .nil) (P 278 26 38)) (.lst .nil (P 278 127 129)) (P 278 26 129)) (P 278 8 130) (P 278 8 130))
def s37_0 : Ts :=
   (.cons u37_0 .nil)
def t37_3 : T :=
   (.for (.nm 6 "_law_value" (P 277 8 18)) (.e (.call 24 "_law_mixed" (P 277 22 32) (.share 0 "_law_pot_here" (P 277 33 46) (.share 3 "_law_span" (P 277 48 57) .nil)) (P 277 22 58))) s37_0 ⟨277, 4, 278, 130⟩)
def u37_1 : T :=
   (.asg (.tp (.cons (.nm 7 "_law_one" (P 281 12 20)) (.cons (.nm 10 "_law_other" (P 281 22 32)) .nil)) 0 (P 281 12 32)) (.call 35 "_law_two" (P 281 35 43) (.share 0 "_law_pot_here" (P 281 44 57) (.share 1 "_law_rows" (P 281 59 68) .nil)) (P 281 35 69)) (P 281 12 69))
def u37_2 : T :=
   (.set ⟨11, "_law_due", (P 282 12 20)⟩ (.v (.call 32 "_law_read" (P 282 23 32) (.share 1 "_law_rows" (P 282 33 42) (.share 8 "_law_thresholds" (P 282 44 59) (.share 7 "_law_one" (P 282 61 69) .nil))) (P 282 23 70))) (P 282 12 70))
def u37_3 : T :=
   (.set ⟨12, "_law_told", (P 283 12 21)⟩ (.dl [(.oc (.call 19 "read_of" (P 283 25 32) (.share 2 "_law_table_here" (P 283 33 48) (.share 8 "_law_thresholds" (P 283 50 65) (.share 7 "_law_one" (P 283 67 75) .nil))) (P 283 25 76)))] (P 283 24 77)) (P 283 12 77))
def u37_4 : T :=
   (.apo ⟨12, "_law_told", (P 284 12 21)⟩ (P 284 12 28) (.oc (.callK 19 "read_of" (P 284 29 36) (.cons "shower" (.conv .tuple (P 284 44 49) (.var 7 "_law_one" (P 284 50 58)) (P 284 44 59)) (P 284 37 59) (.cons "thresholds" (.conv .tuple (P 284 72 77) (.var 8 "_law_thresholds" (P 284 78 93)) (P 284 72 94)) (P 284 61 94) (.cons "table" (.var 2 "_law_table_here" (P 284 102 117)) (P 284 96 117) .nil))) 3 [2, 1, 0] (P 284 29 118))) (P 284 12 119) (P 284 12 119))
def u37_5 : T :=
   (.ret (.con (.bool false) 0 (P 286 23 28)) (P 286 16 28))
def s37_1 : Ts :=
   (.cons u37_5 .nil)
def u37_6 : T :=
   (.iff (.bop .Or (.cmp (.bv 12 "_law_told" (P 285 15 24)) .NotEq (.lst (.cons (.var 11 "_law_due" (P 285 29 37)) (.cons (.var 11 "_law_due" (P 285 39 47)) .nil)) (P 285 28 48)) (P 285 15 48)) (.cons (.cmp (.call 19 "read_of" (P 285 52 59) (.share 2 "_law_table_here" (P 285 60 75) (.share 8 "_law_thresholds" (P 285 77 92) (.share 10 "_law_other" (P 285 94 104) .nil))) (P 285 52 105)) .NotEq (.call 32 "_law_read" (P 285 109 118) (.share 1 "_law_rows" (P 285 119 128) (.share 8 "_law_thresholds" (P 285 130 145) (.share 10 "_law_other" (P 285 147 157) .nil))) (P 285 109 158)) (P 285 52 158)) .nil) (P 285 15 158)) s37_1 .nil ⟨285, 12, 286, 28⟩)
def u37_7 : T :=
   (.apa ⟨12, "_law_told", (P 288 16 25)⟩ 0 0 (P 288 26 27) (P 288 16 28) (P 288 16 35) .none 0 (P 288 36 40) (P 288 16 41) (P 288 16 41))
def s37_2 : Ts :=
   (.cons u37_7 .nil)
def u37_8 : T :=
   (.iff (.nna 12 "_law_told" (P 287 15 24) 0 0 (P 287 25 26) (P 287 15 27) true 0 (P 287 35 39) (P 287 15 39)) s37_2 .nil ⟨287, 12, 288, 41⟩)
def u37_9 : T :=
   (.ret (.con (.bool false) 0 (P 290 23 28)) (P 290 16 28))
def s37_3 : Ts :=
   (.cons u37_9 .nil)
def u37_10 : T :=
   (.iff (.cmp (.call 19 "read_of" (P 289 15 22) (.share 2 "_law_table_here" (P 289 23 38) (.share 8 "_law_thresholds" (P 289 40 55) (.share 7 "_law_one" (P 289 57 65) .nil))) (P 289 15 66)) .NotEq (.var 11 "_law_due" (P 289 70 78)) (P 289 15 78)) s37_3 .nil ⟨289, 12, 290, 28⟩)
def s37_4 : Ts :=
   (.cons u37_1 (.cons u37_2 (.cons u37_3 (.cons u37_4 (.cons u37_6 (.cons u37_8 (.cons u37_10 .nil)))))))
def u37_11 : T :=
   (.for (.nm 9 "_law_turn" (P 280 12 21)) (.rng (.con (.int 3) 0 (P 280 31 32)) (P 280 25 30) (P 280 25 33)) s37_4 ⟨280, 8, 290, 28⟩)
def u37_12 : T :=
   (.ret (.con (.bool false) 0 (P 292 19 24)) (P 292 12 24))
def s37_5 : Ts :=
   (.cons u37_12 .nil)
def u37_13 : T :=
   (.iff (.una .Not (.call 36 "_law_firm_right" (P 291 15 30) (.share 0 "_law_pot_here" (P 291 31 44) (.share 2 "_law_table_here" (P 291 46 61) (.share 1 "_law_rows" (P 291 63 72) (.share 4 "_law_clash" (P 291 74 84) (.share 8 "_law_thresholds" (P 291 86 101) .nil))))) (P 291 15 102)) (P 291 11 102)) s37_5 .nil ⟨291, 8, 292, 24⟩)
def s37_6 : Ts :=
   (.cons u37_11 (.cons u37_13 .nil))
def t37_4 : T :=
   (.for (.nm 8 "_law_thresholds" (P 279 8 23)) (.e (.lst (.cons (.sl (.call 24 "_law_mixed" (P 279 28 38) (.share 0 "_law_pot_here" (P 279 39 52) (.share 3 "_law_span" (P 279 54 63) .nil)) (P 279 28 64)) .no (.yes (.call 22 "_law_draw" (P 279 66 75) (.share 0 "_law_pot_here" (P 279 76 89) (.val (.con (.int 4) 0 (P 279 91 92)) .nil)) (P 279 66 93))) (P 279 65 93) (P 279 28 94)) (.cons (.sl (.var 5 "_law_apart" (P 279 96 106)) .no (.yes (.bin (.con (.int 1) 0 (P 279 108 109)) .Add (.call 22 "_law_draw" (P 279 112 121) (.share 0 "_law_pot_here" (P 279 122 135) (.val (.con (.int 4) 0 (P 279 137 138)) .nil)) (P 279 112 139)) (P 279 108 139))) (P 279 107 139) (P 279 96 140)) .nil)) (P 279 27 141))) s37_6 ⟨279, 4, 292, 24⟩)
def t37_5 : T :=
   (.ret (.eqO 0 7 (.var 2 "_law_table_here" (P 293 11 26)) (.new 0 3 "Table" (P 293 30 35) (.share 1 "_law_rows" (P 293 36 45) .nil) (P 293 30 46)) (P 293 11 46)) (P 293 4 46))
def b37 : Ts :=
   (.cons t37_0 (.cons t37_1 (.cons t37_2 (.cons t37_3 (.cons t37_4 (.cons t37_5 .nil))))))
def d37 : DI := ⟨"_law_right", "_law_right", none, true, ["_law_pot_here"], ["_law_pot_here", "_law_rows", "_law_table_here", "_law_span", "_law_clash", "_law_apart", "_law_value", "_law_one", "_law_thresholds", "_law_turn", "_law_other", "_law_due", "_law_told"], defArgs (topS 57), ⟨.function, [("_law_pot_here", .local), ("_law_rows", .cell), ("_law_table_here", .local), ("_law_span", .local), ("_law_clash", .cell), ("_law_apart", .local), ("_law_value", .cell), ("_law_one", .local), ("_law_thresholds", .local), ("_law_turn", .local), ("_law_other", .local), ("_law_due", .local), ("_law_told", .local), ("_law_melting", .globalImplicit), ("Table", .globalImplicit), ("list", .globalImplicit), ("range", .globalImplicit), ("len", .globalImplicit), ("_law_join", .globalImplicit), ("_law_mixed", .globalImplicit), ("all", .globalImplicit), ("_law_draw", .globalImplicit), ("_law_two", .globalImplicit), ("_law_read", .globalImplicit), ("read_of", .globalImplicit), ("tuple", .globalImplicit), ("_law_firm_right", .globalImplicit)], false, false, [("fast", .str "_law_pot_here"), ("fast", .str "_law_rows"), ("fast", .str "_law_table_here"), ("fast", .str "_law_span"), ("fast", .str "_law_clash"), ("fast", .str "_law_apart"), ("fast", .str "_law_value"), ("fast", .str "_law_one"), ("fast", .str "_law_thresholds"), ("fast", .str "_law_turn"), ("fast", .str "_law_other"), ("fast", .str "_law_due"), ("fast", .str "_law_told")]⟩, b37⟩
/-- law -/
def c38_0 : E :=
   (.comp (.callT 37 "_law_right" (P 295 16 26) 21 "_law_pot" (P 295 27 35) (.share 0 "_law_script" (P 295 36 47) (.share 1 "_law_k" (P 295 49 55) .nil)) (P 295 27 56) (P 295 16 57)) (.nm 1 "_law_k" (P 295 62 68)) (.rng (.bi2 .max2 (P 295 78 81) (.con (.int 1) 0 (P 295 82 83)) (.bi2 .min2 (P 295 85 88) (.con (.int 2) 0 (P 295 89 90)) (.bi1 .len (P 295 92 95) (.var 0 "_law_script" (P 295 96 107)) (P 295 92 108)) (P 295 85 109)) (P 295 78 110)) (P 295 72 77) (P 295 72 111)) .nil ⟨.function, [(".0", .local), ("_law_k", .local), ("_law_right", .globalImplicit), ("_law_pot", .globalImplicit), ("_law_script", .free)], false, false, []⟩ [("_law_k", 1)] (P 295 15 112))
def t38_0 : T :=
   (.ret (.bi1 .all (P 295 11 14) c38_0 (P 295 11 113)) (P 295 4 113))
def b38 : Ts :=
   (.cons t38_0 .nil)
def d38 : DI := ⟨"law", "law", none, true, ["_law_script"], ["_law_script", "_law_k"], defArgs (topS 58), ⟨.function, [("_law_script", .cell), ("all", .globalImplicit), ("range", .globalImplicit), ("max", .globalImplicit), ("min", .globalImplicit), ("len", .globalImplicit)], false, false, [("fast", .str "_law_script"), ("fast", .str "_law_k")]⟩, b38⟩
theorem same0 : b0.py = defBody (topS 1) := by kernel_rfl
theorem same1 : b1.py = defBody (topS 2) := by kernel_rfl
theorem same2 : b2.py = defBody (topS 13) := by kernel_rfl
theorem same3 : b3.py = defBody (inClass (topS 14) 0) := by kernel_rfl
theorem same4 : b4.py = defBody (topS 17) := by kernel_rfl
theorem same5 : b5.py = defBody (topS 24) := by kernel_rfl
theorem same6 : b6.py = defBody (inClass (topS 14) 3) := by kernel_rfl
theorem same7 : b7.py = defBody (inClass (topS 14) 4) := by kernel_rfl
theorem same8 : b8.py = defBody (topS 25) := by kernel_rfl
theorem same9 : b9.py = defBody (topS 15) := by kernel_rfl
theorem same10 : b10.py = defBody (topS 26) := by kernel_rfl
theorem same11 : b11.py = defBody (topS 18) := by kernel_rfl
theorem same12 : b12.py = defBody (topS 27) := by kernel_rfl
theorem same13 : b13.py = defBody (topS 28) := by kernel_rfl
theorem same14 : b14.py = defBody (topS 19) := by kernel_rfl
theorem same15 : b15.py = defBody (topS 29) := by kernel_rfl
theorem same16 : b16.py = defBody (topS 20) := by kernel_rfl
theorem same17 : b17.py = defBody (topS 21) := by kernel_rfl
theorem same18 : b18.py = defBody (topS 22) := by kernel_rfl
theorem same19 : b19.py = defBody (topS 30) := by kernel_rfl
theorem same20 : b20.py = defBody (topS 31) := by kernel_rfl
theorem same21 : b21.py = defBody (topS 37) := by kernel_rfl
theorem same22 : b22.py = defBody (topS 38) := by kernel_rfl
theorem same23 : b23.py = defBody (topS 39) := by kernel_rfl
theorem same24 : b24.py = defBody (topS 40) := by kernel_rfl
theorem same25 : b25.py = defBody (topS 41) := by kernel_rfl
theorem same26 : b26.py = defBody (topS 42) := by kernel_rfl
theorem same27 : b27.py = defBody (topS 32) := by kernel_rfl
theorem same28 : b28.py = defBody (topS 33) := by kernel_rfl
theorem same29 : b29.py = defBody (topS 34) := by kernel_rfl
theorem same30 : b30.py = defBody (topS 35) := by kernel_rfl
theorem same31 : b31.py = defBody (topS 45) := by kernel_rfl
theorem same32 : b32.py = defBody (topS 52) := by kernel_rfl
theorem same33 : b33.py = defBody (topS 53) := by kernel_rfl
theorem same34 : b34.py = defBody (topS 54) := by kernel_rfl
theorem same35 : b35.py = defBody (topS 55) := by kernel_rfl
theorem same36 : b36.py = defBody (topS 56) := by kernel_rfl
theorem same37 : b37.py = defBody (topS 57) := by kernel_rfl
theorem same38 : b38.py = defBody (topS 58) := by kernel_rfl
def Pr : Pg := ⟨[d0, d1, d2, d3, d4, d5, d6, d7, d8, d9, d10, d11, d12, d13, d14, d15, d16, d17, d18, d19, d20, d21, d22, d23, d24, d25, d26, d27, d28, d29, d30, d31, d32, d33, d34, d35, d36, d37, d38], [("MOST_VALUES", .int 7)], [("Table", 3, ["own_rows"])], [(27, ["thresholds", "table"], [1, 0]), (28, ["thresholds", "table"], [1, 0]), (30, ["value", "thresholds", "table"], [2, 1, 0]), (19, ["shower", "thresholds", "table"], [2, 1, 0])], [(0, 6)], [(0, 7)], [(0, "Table")]⟩
theorem bn0 : BN d0 := fun _ _ _ _ _ _ us hl => match us, hl with | [_], _ => rfl
theorem bn1 : BN d1 := fun _ _ _ _ _ _ us hl => match us, hl with | [_], _ => rfl
theorem bn2 : BN d2 := fun _ _ _ _ _ _ us hl => match us, hl with | [_, _], _ => rfl
theorem bn3 : BN d3 := fun _ _ _ _ _ _ us hl => match us, hl with | [_, _], _ => rfl
theorem bn4 : BN d4 := fun _ _ _ _ _ _ us hl => match us, hl with | [_, _, _], _ => rfl
theorem bn5 : BN d5 := fun _ _ _ _ _ _ us hl => match us, hl with | [_], _ => rfl
theorem bn6 : BN d6 := fun _ _ _ _ _ _ us hl => match us, hl with | [_], _ => rfl
theorem bn7 : BN d7 := fun _ _ _ _ _ _ us hl => match us, hl with | [_, _], _ => rfl
theorem bn8 : BN d8 := fun _ _ _ _ _ _ us hl => match us, hl with | [_, _], _ => rfl
theorem bn9 : BN d9 := fun _ _ _ _ _ _ us hl => match us, hl with | [_, _], _ => rfl
theorem bn10 : BN d10 := fun _ _ _ _ _ _ us hl => match us, hl with | [_, _, _], _ => rfl
theorem bn11 : BN d11 := fun _ _ _ _ _ _ us hl => match us, hl with | [_], _ => rfl
theorem bn12 : BN d12 := fun _ _ _ _ _ _ us hl => match us, hl with | [_], _ => rfl
theorem bn13 : BN d13 := fun _ _ _ _ _ _ us hl => match us, hl with | [_, _], _ => rfl
theorem bn14 : BN d14 := fun _ _ _ _ _ _ us hl => match us, hl with | [_, _], _ => rfl
theorem bn15 : BN d15 := fun _ _ _ _ _ _ us hl => match us, hl with | [_, _, _], _ => rfl
theorem bn16 : BN d16 := fun _ _ _ _ _ _ us hl => match us, hl with | [_], _ => rfl
theorem bn17 : BN d17 := fun _ _ _ _ _ _ us hl => match us, hl with | [_], _ => rfl
theorem bn18 : BN d18 := fun _ _ _ _ _ _ us hl => match us, hl with | [_], _ => rfl
theorem bn19 : BN d19 := fun _ _ _ _ _ _ us hl => match us, hl with | [_, _, _], _ => rfl
theorem bn20 : BN d20 := fun _ _ _ _ _ _ us hl => match us, hl with | [_, _], _ => rfl
theorem bn21 : BN d21 := fun _ _ _ _ _ _ us hl => match us, hl with | [_, _], _ => rfl
theorem bn22 : BN d22 := fun _ _ _ _ _ _ us hl => match us, hl with | [_, _], _ => rfl
theorem bn23 : BN d23 := fun _ _ _ _ _ _ us hl => match us, hl with | [_, _], _ => rfl
theorem bn24 : BN d24 := fun _ _ _ _ _ _ us hl => match us, hl with | [_, _], _ => rfl
theorem bn25 : BN d25 := fun _ _ _ _ _ _ us hl => match us, hl with | [_], _ => rfl
theorem bn26 : BN d26 := fun _ _ _ _ _ _ us hl => match us, hl with | [_], _ => rfl
theorem bn27 : BN d27 := fun _ _ _ _ _ _ us hl => match us, hl with | [_, _], _ => rfl
theorem bn28 : BN d28 := fun _ _ _ _ _ _ us hl => match us, hl with | [_, _], _ => rfl
theorem bn29 : BN d29 := fun _ _ _ _ _ _ us hl => match us, hl with | [_, _], _ => rfl
theorem bn30 : BN d30 := fun _ _ _ _ _ _ us hl => match us, hl with | [_, _, _], _ => rfl
theorem bn31 : BN d31 := fun _ _ _ _ _ _ us hl => match us, hl with | [_, _], _ => rfl
theorem bn32 : BN d32 := fun _ _ _ _ _ _ us hl => match us, hl with | [_, _, _], _ => rfl
theorem bn33 : BN d33 := fun _ _ _ _ _ _ us hl => match us, hl with | [_, _], _ => rfl
theorem bn34 : BN d34 := fun _ _ _ _ _ _ us hl => match us, hl with | [_, _, _, _], _ => rfl
theorem bn35 : BN d35 := fun _ _ _ _ _ _ us hl => match us, hl with | [_, _], _ => rfl
theorem bn36 : BN d36 := fun _ _ _ _ _ _ us hl => match us, hl with | [_, _, _, _, _], _ => rfl
theorem bn37 : BN d37 := fun _ _ _ _ _ _ us hl => match us, hl with | [_], _ => rfl
theorem bn38 : BN d38 := fun _ _ _ _ _ _ us hl => match us, hl with | [_], _ => rfl
theorem bnAll : ∀ d ∈ Pr.defs, BN d := List.forall_mem_cons.mpr ⟨bn0, List.forall_mem_cons.mpr ⟨bn1, List.forall_mem_cons.mpr ⟨bn2, List.forall_mem_cons.mpr ⟨bn3, List.forall_mem_cons.mpr ⟨bn4, List.forall_mem_cons.mpr ⟨bn5, List.forall_mem_cons.mpr ⟨bn6, List.forall_mem_cons.mpr ⟨bn7, List.forall_mem_cons.mpr ⟨bn8, List.forall_mem_cons.mpr ⟨bn9, List.forall_mem_cons.mpr ⟨bn10, List.forall_mem_cons.mpr ⟨bn11, List.forall_mem_cons.mpr ⟨bn12, List.forall_mem_cons.mpr ⟨bn13, List.forall_mem_cons.mpr ⟨bn14, List.forall_mem_cons.mpr ⟨bn15, List.forall_mem_cons.mpr ⟨bn16, List.forall_mem_cons.mpr ⟨bn17, List.forall_mem_cons.mpr ⟨bn18, List.forall_mem_cons.mpr ⟨bn19, List.forall_mem_cons.mpr ⟨bn20, List.forall_mem_cons.mpr ⟨bn21, List.forall_mem_cons.mpr ⟨bn22, List.forall_mem_cons.mpr ⟨bn23, List.forall_mem_cons.mpr ⟨bn24, List.forall_mem_cons.mpr ⟨bn25, List.forall_mem_cons.mpr ⟨bn26, List.forall_mem_cons.mpr ⟨bn27, List.forall_mem_cons.mpr ⟨bn28, List.forall_mem_cons.mpr ⟨bn29, List.forall_mem_cons.mpr ⟨bn30, List.forall_mem_cons.mpr ⟨bn31, List.forall_mem_cons.mpr ⟨bn32, List.forall_mem_cons.mpr ⟨bn33, List.forall_mem_cons.mpr ⟨bn34, List.forall_mem_cons.mpr ⟨bn35, List.forall_mem_cons.mpr ⟨bn36, List.forall_mem_cons.mpr ⟨bn37, List.forall_mem_cons.mpr ⟨bn38, (fun _ h => by cases h)⟩⟩⟩⟩⟩⟩⟩⟩⟩⟩⟩⟩⟩⟩⟩⟩⟩⟩⟩⟩⟩⟩⟩⟩⟩⟩⟩⟩⟩⟩⟩⟩⟩⟩⟩⟩⟩⟩⟩
theorem kn0 : KN d27 ["thresholds", "table"] [1, 0] := fun _ _ _ _ _ _ us hl => match us, hl with | [_, _], _ => rfl
theorem kn1 : KN d28 ["thresholds", "table"] [1, 0] := fun _ _ _ _ _ _ us hl => match us, hl with | [_, _], _ => rfl
theorem kn2 : KN d30 ["value", "thresholds", "table"] [2, 1, 0] := fun _ _ _ _ _ _ us hl => match us, hl with | [_, _, _], _ => rfl
theorem kn3 : KN d19 ["shower", "thresholds", "table"] [2, 1, 0] := fun _ _ _ _ _ _ us hl => match us, hl with | [_, _, _], _ => rfl
theorem knAll : ∀ q ∈ Pr.kws, ∀ d, Pr.defs[q.1]? = some d → KN d q.2.1 q.2.2 := List.forall_mem_cons.mpr ⟨fun d e => (by cases e; exact kn0), List.forall_mem_cons.mpr ⟨fun d e => (by cases e; exact kn1), List.forall_mem_cons.mpr ⟨fun d e => (by cases e; exact kn2), List.forall_mem_cons.mpr ⟨fun d e => (by cases e; exact kn3), (fun _ h => by cases h)⟩⟩⟩⟩
theorem bindOk : BindOk Pr := ⟨fun f d e => bnAll d (List.mem_of_getElem? e), fun f d ks π e hk => knAll _ hk d e⟩
theorem ok_all : Pr.ok = true := by decide +kernel
end Dm.K44

namespace Dm
section
variable {i k : Nat} {x : PySem.Str} {p q : PySem.Pos} {c : PySem.Const} {es : Es} {a b : E} {op : PySem.Operator} {cp : PySem.CmpOp} {bb : Bi} {as : As} {ks : Ks} {π : List Nat} {lo hi : EO}
theorem opn_bv {m : M D} : opn m (.bv i x p) = peek i := rfl
theorem opn_var {m : M D} : opn m (.var i x p) = m := rfl
theorem opn_con {m : M D} : opn m (.con c k p) = m := rfl
theorem opn_glo {m : M D} : opn m (.glo i x p) = m := rfl
theorem opn_tup {m : M D} : opn m (.tup es k p) = m := rfl
theorem opn_lst {m : M D} : opn m (.lst es p) = m := rfl
theorem opn_bin {m : M D} : opn m (.bin a op b p) = m := rfl
theorem opn_sub {m : M D} : opn m (.sub a b p) = m := rfl
theorem opn_att {m : M D} : opn m (.att a k x p) = m := rfl
theorem opn_bi1 {m : M D} : opn m (.bi1 bb p a q) = m := rfl
theorem opn_call {m : M D} : opn m (.call k x p as q) = m := rfl
theorem opn_callK {m : M D} : opn m (.callK k x p ks i π q) = m := rfl
theorem opn_cmp {m : M D} : opn m (.cmp a cp b p) = m := rfl
theorem opn_ss {m : M D} : opn m (.ss p q a p q) = m := rfl
theorem opn_sl {m : M D} : opn m (.sl a lo hi p q) = m := rfl
end
theorem ofO_s {α : Type} {a : α} : ofO (some a) = ret a := rfl
theorem leafD_l {d : D} : OD.leafD (.leaf d) = some d := rfl
theorem tr_b {b : Bool} : D.tr (.bl b) = some b := rfl
theorem itD_l {ds : List D} : itD (.lst ds) = some ds := rfl
theorem itD_t {ds : List D} : itD (.tup ds) = some ds := rfl
theorem bAdd {i j : Int} : binD .Add (.int i) (.int j) = some (.int (i + j)) := rfl
theorem bSub {i j : Int} : binD .Sub (.int i) (.int j) = some (.int (i - j)) := rfl
theorem bMul {i j : Int} (h : -(2 ^ 64) < i ∧ i < 2 ^ 64 ∨ -(2 ^ 64) < j ∧ j < 2 ^ 64) : binD .Mult (.int i) (.int j) = some (.int (i * j)) := if_pos h
theorem bDiv {i j : Int} (h : 0 < j ∧ j < 2 ^ 30) : binD .FloorDiv (.int i) (.int j) = some (.int (i / j)) := if_pos h
theorem bMod {i j : Int} (h : 0 < j) : binD .Mod (.int i) (.int j) = some (.int (i % j)) := if_pos h
theorem bDm {i j : Int} (h : 0 < j ∧ j < 1073741824) : bi2D .divmod (.int i) (.int j) = some (.tup [.int (i / j), .int (i % j)]) := if_pos h
theorem bApp {xs ys : List D} (h : xs.length + ys.length ≤ PySem.sizeLine) : binD .Add (.lst xs) (.lst ys) = some (.lst (xs ++ ys)) := by simp [binD, h]
theorem b1I {i : Int} : bi1D .int (.int i) = some (.int i) := rfl
theorem b1L {xs : List D} : bi1D .len (.lst xs) = some (.int xs.length) := rfl
theorem b1T {xs : List D} : bi1D .len (.tup xs) = some (.int xs.length) := rfl
theorem ix_l {xs : List D} {k : Nat} {d : D} (h : xs[k]? = some d) : ixD (.lst xs) (.int k) = some d := by
  have hk := (List.getElem?_eq_some_iff.mp h).1
  simp [ixD, L2.atI, L2.ixN, hk]
  exact (List.getElem?_eq_some_iff.mp h).2
theorem ix_t {xs : List D} {k : Nat} {d : D} (h : xs[k]? = some d) : ixD (.tup xs) (.int k) = some d := by
  have hk := (List.getElem?_eq_some_iff.mp h).1
  simp [ixD, L2.atI, L2.ixN, hk]
  exact (List.getElem?_eq_some_iff.mp h).2
namespace K44
open PySem L2 Dm
abbrev cl (n : Nat) : CallF := callN Pr 1000 n
abbrev G (n : Nat) : Env := Pr.env 1000 n
variable {n : Nat} {S : List OD}
theorem env_call : (G n).call = cl n := rfl
theorem env_fn : (G n).fn = Pr.fn := rfl
theorem env_wf : (G n).wf = 1000 := rfl
theorem env_glob : (G n).glob = Pr.glob := rfl
theorem call_def {f : Nat} {d : DI} (h : Pr.defs[f]? = some d) (sl : List Slot) (S : List OD) : cl (n + 1) f sl S = runDef (G n) d sl S := by
  unfold cl
  rw [callN]
  simp only [h]
  rfl
theorem call_ok {f : Nat} {d : DI} {sl : List Slot} {S S' : List OD} {o : OD} {L' : List Slot} (h : Pr.defs[f]? = some d) (hn : 1 ≤ n) (hl : sl.length = d.ps.length)
    (hb : execs (G (n - 1)) d.body ⟨sl ++ List.replicate (d.N.length - d.ps.length) .no, S⟩ = some (.rt o, ⟨L', S'⟩)) : cl n f sl S = some (o, S') := by
  obtain ⟨m, rfl⟩ : ∃ m, n = m + 1 := ⟨n - 1, by omega⟩
  rw [call_def h]
  exact r_def hl hb
theorem call_okE {f : Nat} {d : DI} {sl : List Slot} {S S' : List OD} {o : OD} (h : Pr.defs[f]? = some d) (hn : 1 ≤ n) (hl : sl.length = d.ps.length)
    (hb : ∃ L', execs (G (n - 1)) d.body ⟨sl ++ List.replicate (d.N.length - d.ps.length) .no, S⟩ = some (.rt o, ⟨L', S'⟩)) : cl n f sl S = some (o, S') := hb.elim fun _ hb => call_ok h hn hl hb
theorem call_nx {f : Nat} {d : DI} {sl : List Slot} {S S' : List OD} {L' : List Slot} (h : Pr.defs[f]? = some d) (hn : 1 ≤ n) (hl : sl.length = d.ps.length)
    (hb : execs (G (n - 1)) d.body ⟨sl ++ List.replicate (d.N.length - d.ps.length) .no, S⟩ = some (.nx, ⟨L', S'⟩)) : cl n f sl S = some (.leaf .non, S') := by
  obtain ⟨m, rfl⟩ : ∃ m, n = m + 1 := ⟨n - 1, by omega⟩
  rw [call_def h]
  unfold runDef
  rw [if_pos hl]
  simp only [Nat.add_sub_cancel] at hb
  rw [hb]
def Pot (S : List OD) : Prop := ∃ a b : Int, S = [.fl [.int a, .int b]] ∧ 0 ≤ a ∧ 0 ≤ b ∧ b < 2147483647
theorem draw (hn : 1 ≤ n) {m : Int} (h1 : 1 ≤ m) (h2 : m < 1000) (hS : Pot S) : ∃ (r : Nat) (S' : List OD), Pot S' ∧ (r : Int) < m ∧ cl n 22 [.ref 0, .val (.int m)] S = some (.leaf (.int r), S') := by
  obtain ⟨a, b, rfl, ha, hb, hb2⟩ := hS
  by_cases h : 0 < a
  · have hq : 0 ≤ a % m := Int.emod_nonneg _ (by omega)
    have hq2 : a % m < m := Int.emod_lt_of_pos _ (by omega)
    refine ⟨(a % m).toNat, [.fl [.int (a / m), .int b]], ⟨a / m, b, rfl, Int.ediv_nonneg ha (by omega), hb, hb2⟩, by omega, ?_⟩
    refine call_ok (d := d22) rfl hn rfl (L' := [.ref 0, .val (.int m), .val (.int (a % m))]) ?_
    show execs _ (.cons t22_0 _) ⟨[.ref 0, .val (.int m), .no], _⟩ = _
    refine r_rt ?_
    have e1 : bi2D .divmod (.int a) (.int m) = some (.tup [.int (a / m), .int (a % m)]) := bDm (by omega)
    have e2 : (((a % m).toNat : Nat) : Int) = a % m := by omega
    rw [e2]
    simp [t22_0, s22_0, u22_0, u22_1, exec, execs, den, dens, denB, denAs, denKs, denIt, denIfs, denEO, denOE, denOEs, denF, bnd, ret, readVar, peek, peekO, peekL, opn_bv, opn_var, opn_con, opn_glo, opn_tup, opn_lst, opn_bin, opn_sub, opn_att, opn_bi1, opn_call, opn_callK, opn_cmp, opn_ss, opn_sl, cmpM, subM, subB, attM, unaM, setSlot, setSlots, setV, setT, setTs, doCall, mutF, tst, andThen, ofO_s, leafD_l, tr_b, env_call, env_fn, env_wf, env_glob, conD, rtM, itD_l, itD_t, cmpD, cmpI, h, ixD, atI, ixN, e1, setAt]
  · have hq : 0 ≤ (b * 48271 + 20011) % 2147483497 := Int.emod_nonneg _ (by omega)
    have hq2 : (b * 48271 + 20011) % 2147483497 < 2147483497 := Int.emod_lt_of_pos _ (by omega)
    generalize hc : (b * 48271 + 20011) % 2147483497 = c at hq hq2
    have hr : 0 ≤ (c * c) % 2147483549 / 19 % m := Int.emod_nonneg _ (by omega)
    have hr2 : (c * c) % 2147483549 / 19 % m < m := Int.emod_lt_of_pos _ (by omega)
    refine ⟨((c * c) % 2147483549 / 19 % m).toNat, [.fl [.int a, .int c]], ⟨a, c, rfl, ha, hq, by omega⟩, by omega, ?_⟩
    refine call_ok (d := d22) rfl hn rfl (L' := [.ref 0, .val (.int m), .no]) ?_
    show execs _ (.cons t22_0 _) ⟨[.ref 0, .val (.int m), .no], _⟩ = _
    have e1 : binD .Mult (.int b) (.int 48271) = some (.int (b * 48271)) := bMul (by omega)
    have e2 : binD .Mult (.int c) (.int c) = some (.int (c * c)) := bMul (by omega)
    have e3 : binD .Mod (.int ((c * c) % 2147483549 / 19)) (.int m) = some (.int ((c * c) % 2147483549 / 19 % m)) := bMod (by omega)
    have e4 : binD .FloorDiv (.int ((c * c) % 2147483549)) (.int 19) = some (.int ((c * c) % 2147483549 / 19)) := rfl
    have e5 : binD .Mod (.int (c * c)) (.int 2147483549) = some (.int ((c * c) % 2147483549)) := rfl
    have e6 : binD .Mod (.int (b * 48271 + 20011)) (.int 2147483497) = some (.int c) := by rw [← hc]; rfl
    have e7 : binD .Add (.int (b * 48271)) (.int 20011) = some (.int (b * 48271 + 20011)) := rfl
    have e8 : ∀ i, bi1D .int (.int i) = some (.int i) := fun _ => rfl
    have e9 : ((((c * c) % 2147483549 / 19 % m).toNat : Nat) : Int) = (c * c) % 2147483549 / 19 % m := by omega
    rw [e9]
    rw [r_nx (s1 := ⟨[.ref 0, .val (.int m), .no], [.fl [.int a, .int b]]⟩) (by simp [t22_0, exec, execs, den, dens, denB, denAs, denKs, denIt, denIfs, denEO, denOE, denOEs, denF, bnd, ret, readVar, peek, peekO, peekL, opn_bv, opn_var, opn_con, opn_glo, opn_tup, opn_lst, opn_bin, opn_sub, opn_att, opn_bi1, opn_call, opn_callK, opn_cmp, opn_ss, opn_sl, cmpM, subM, subB, attM, unaM, setSlot, setSlots, setV, setT, setTs, doCall, mutF, tst, andThen, ofO_s, leafD_l, tr_b, env_call, env_fn, env_wf, env_glob, conD, rtM, itD_l, itD_t, cmpD, cmpI, h, ixD, atI, ixN])]
    rw [r_nx (s1 := ⟨[.ref 0, .val (.int m), .no], [.fl [.int a, .int c]]⟩) (by simp [t22_1, exec, execs, den, dens, denB, denAs, denKs, denIt, denIfs, denEO, denOE, denOEs, denF, bnd, ret, readVar, peek, peekO, peekL, opn_bv, opn_var, opn_con, opn_glo, opn_tup, opn_lst, opn_bin, opn_sub, opn_att, opn_bi1, opn_call, opn_callK, opn_cmp, opn_ss, opn_sl, cmpM, subM, subB, attM, unaM, setSlot, setSlots, setV, setT, setTs, doCall, mutF, tst, andThen, ofO_s, leafD_l, tr_b, env_call, env_fn, env_wf, env_glob, conD, rtM, itD_l, itD_t, ixD, atI, ixN, e1, e6, e7, e8, setAt])]
    refine r_rt ?_
    simp [t22_2, exec, execs, den, dens, denB, denAs, denKs, denIt, denIfs, denEO, denOE, denOEs, denF, bnd, ret, readVar, peek, peekO, peekL, opn_bv, opn_var, opn_con, opn_glo, opn_tup, opn_lst, opn_bin, opn_sub, opn_att, opn_bi1, opn_call, opn_callK, opn_cmp, opn_ss, opn_sl, cmpM, subM, subB, attM, unaM, setSlot, setSlots, setV, setT, setTs, doCall, mutF, tst, andThen, ofO_s, leafD_l, tr_b, env_call, env_fn, env_wf, env_glob, conD, rtM, itD_l, itD_t, ixD, atI, ixN, e2, e3, e4, e5, e8]
end K44
end Dm

namespace Dm
open PySem L2
def gd (k : Nat) (d : D) : Prop := d.py.canLay0 = true ∧ d.py.depth ≤ k
theorem gd_all {k : Nat} : ∀ {ds : List D}, (∀ d ∈ ds, gd k d) → PySem.PyData.canLayAll0 (D.pys ds) = true ∧ PySem.PyData.depthAll (D.pys ds) ≤ k
  | [], _ => by simp [D.pys, PySem.PyData.canLayAll0, PySem.PyData.depthAll]
  | d :: ds, h => by
    obtain ⟨h1, h2⟩ := gd_all fun d hd => h d (List.mem_cons_of_mem _ hd)
    have h3 := h d List.mem_cons_self
    rw [D.pys, PySem.PyData.canLayAll0, PySem.PyData.depthAll, h3.1, h1]
    exact ⟨rfl, Nat.max_le.mpr ⟨h3.2, h2⟩⟩
theorem gd_lst {k : Nat} {ds : List D} (h : ∀ d ∈ ds, gd k d) : gd (k + 1) (.lst ds) := by
  obtain ⟨h1, h2⟩ := gd_all h
  unfold gd
  rw [D.py, PySem.PyData.canLay0, PySem.PyData.depth]
  exact ⟨h1, by omega⟩
theorem gd_tup {k : Nat} {ds : List D} (h : ∀ d ∈ ds, gd k d) : gd (k + 1) (.tup ds) := by
  obtain ⟨h1, h2⟩ := gd_all h
  unfold gd
  rw [D.py, PySem.PyData.canLay0, PySem.PyData.depth]
  exact ⟨h1, by omega⟩
theorem gd.mono {j k : Nat} {d : D} (h : gd j d) (hk : j ≤ k) : gd k d := ⟨h.1, Nat.le_trans h.2 hk⟩
theorem gd_int {k : Nat} {i : Int} : gd k (.int i) := by
  unfold gd; rw [D.py]; exact ⟨by simp [PySem.PyData.canLay0], by simp [PySem.PyData.depth]⟩
theorem gd_bl {k : Nat} {b : Bool} : gd k (.bl b) := by
  unfold gd; rw [D.py]; exact ⟨by simp [PySem.PyData.canLay0], by simp [PySem.PyData.depth]⟩
theorem gd_non {k : Nat} : gd k .non := by
  unfold gd; rw [D.py]; exact ⟨by simp [PySem.PyData.canLay0], by simp [PySem.PyData.depth]⟩
theorem gd.shaped {k : Nat} {d : D} (h : gd k d) (hk : k ≤ 64) : SeqAt.shaped d.py = true := by
  unfold SeqAt.shaped
  rw [h.1]
  have := h.2
  simp
  omega
theorem eqD_gd {a b : D} {j k : Nat} (ha : gd j a) (hb : gd k b) (hj : j ≤ 64) (hk : k ≤ 64) : eqD a b = some (PySem.PyData.eqv a.py b.py) := by
  unfold eqD
  rw [ha.shaped hj, hb.shaped hk]; rfl
theorem eq_nil {k : Nat} {ds : List D} (h : ∀ d ∈ ds, gd k d) (hk : k ≤ 63) : eqD (.lst ds) (.lst []) = some ds.isEmpty := by
  rw [eqD_gd (gd_lst h) (gd_lst (k := 0) fun d hd => (List.not_mem_nil hd).elim) (by omega) (by omega)]
  cases ds <;> simp [D.py, D.pys, PySem.PyData.eqv, PySem.PyData.eqvAll]
theorem erase_perm {α : Type} : ∀ {l : List α} {i : Nat} (h : i < l.length), (l[i] :: l.eraseIdx i).Perm l
  | [], _, h => by simp at h
  | x :: l, 0, h => by simp
  | x :: l, i + 1, h => by
    simp only [List.getElem_cons_succ, List.eraseIdx_cons_succ]
    exact (List.Perm.swap _ _ _).trans (List.Perm.cons _ (erase_perm _))
theorem bPow {i j : Int} (h : 0 ≤ j ∧ j ≤ 1000000 ∧ i.natAbs < 2 ^ 64) : binD .Pow (.int i) (.int j) = some (.int (i ^ j.toNat)) := if_pos h
theorem eq_int {i j : Int} : eqD (.int i) (.int j) = some (i == j) := by
  rw [eqD_gd (gd_int (k := 0)) (gd_int (k := 0)) (by omega) (by omega)]
  simp [D.py, PySem.PyData.eqv]
theorem eq_bl {i j : Bool} : eqD (.bl i) (.bl j) = some (i == j) := by
  rw [eqD_gd (gd_bl (k := 0)) (gd_bl (k := 0)) (by omega) (by omega)]
  simp [D.py, PySem.PyData.eqv]
namespace K44
open PySem L2 Dm
variable {n : Nat} {S : List OD}
theorem pick (hn : 2 ≤ n) {xs : List D} (h1 : xs ≠ []) (h2 : xs.length < 1000) (hS : Pot S) : ∃ (d : D) (S' : List OD), Pot S' ∧ d ∈ xs ∧ cl n 23 [.ref 0, .val (.lst xs)] S = some (.leaf d, S') := by
  have hl : 0 < xs.length := List.length_pos_iff.mpr h1
  obtain ⟨r, S', hp, hr, e⟩ := draw (n := n - 1) (S := S) (by omega) (m := xs.length) (by omega) (by omega) hS
  have hr' : r < xs.length := by omega
  have hg : xs[r]? = some xs[r] := by simp [hr']
  refine ⟨xs[r], S', hp, List.getElem_mem hr', ?_⟩
  refine call_ok (d := d23) rfl (by omega) rfl (L' := [.ref 0, .val (.lst xs)]) ?_
  show execs _ (.cons t23_0 _) ⟨[.ref 0, .val (.lst xs)], _⟩ = _
  refine r_rt ?_
  simp [t23_0, exec, execs, den, dens, denB, denAs, denKs, denIt, denIfs, denEO, denOE, denOEs, denF, bnd, ret, readVar, peek, peekO, peekL, opn_bv, opn_var, opn_con, opn_glo, opn_tup, opn_lst, opn_bin, opn_sub, opn_att, opn_bi1, opn_call, opn_callK, opn_cmp, opn_ss, opn_sl, cmpM, subM, subB, attM, unaM, setSlot, setSlots, setV, setT, setTs, doCall, mutF, tst, andThen, ofO_s, leafD_l, tr_b, env_call, env_fn, env_wf, env_glob, conD, rtM, itD_l, itD_t, b1L, e, ix_l hg]
theorem mixed_loop {m : Nat} (hm : 1 ≤ m) {x : Slot} : ∀ (k : Nat) {left found : List D} {S : List OD}, left.length < k → found.length + left.length < 1000 → Pot S → (∀ d ∈ left, gd 10 d) →
    ∃ (found' : List D) (S' : List OD), Pot S' ∧ found'.Perm (found ++ left) ∧ whileM (tst (G m) c24_0) (execs (G m) s24_0) k ⟨[.ref 0, x, .own (.fl left), .own (.fl found)], S⟩ = some (.nx, ⟨[.ref 0, x, .own (.fl []), .own (.fl found')], S'⟩)
  | 0, _, _, _, h, _, _, _ => by omega
  | k + 1, [], found, S, _, _, hS, hg => by
    refine ⟨found, S, hS, by simp, ?_⟩
    rw [whileM]
    have e := eq_nil hg (by omega)
    simp [c24_0, exec, execs, den, dens, denB, denAs, denKs, denIt, denIfs, denEO, denOE, denOEs, denF, bnd, ret, readVar, peek, peekO, peekL, opn_bv, opn_var, opn_con, opn_glo, opn_tup, opn_lst, opn_bin, opn_sub, opn_att, opn_bi1, opn_call, opn_callK, opn_cmp, opn_ss, opn_sl, cmpM, subM, subB, attM, unaM, setSlot, setSlots, setV, setT, setTs, doCall, mutF, tst, andThen, ofO_s, leafD_l, tr_b, env_call, env_fn, env_wf, env_glob, conD, rtM, itD_l, itD_t, OD.toD, cmpD, e]
  | k + 1, d0 :: left, found, S, h1, h2, hS, hg => by
    have e := eq_nil hg (by omega)
    obtain ⟨r, S1, hp, hr, ed⟩ := draw (n := m) (S := S) hm (m := (d0 :: left).length) (by simp; omega) (by simp at h2 ⊢; omega) hS
    have hr' : r < (d0 :: left).length := by omega
    obtain ⟨found', S', p1, p2, p3⟩ := mixed_loop hm (x := x) k (left := (d0 :: left).eraseIdx r) (found := found ++ [(d0 :: left)[r]]) (S := S1) (by rw [List.length_eraseIdx_of_lt hr']; simp at h1 ⊢; omega) (by rw [List.length_eraseIdx_of_lt hr']; simp at h2 ⊢; omega) hp (fun d hd => hg d (List.mem_of_mem_eraseIdx hd))
    refine ⟨found', S', p1, p2.trans ?_, ?_⟩
    · rw [List.append_assoc]
      exact List.Perm.append_left _ (erase_perm hr')
    · rw [whileM]
      have e2 : tst (G m) c24_0 ⟨[.ref 0, x, .own (.fl (d0 :: left)), .own (.fl found)], S⟩ = some (true, ⟨[.ref 0, x, .own (.fl (d0 :: left)), .own (.fl found)], S⟩) := by
        simp [c24_0, exec, execs, den, dens, denB, denAs, denKs, denIt, denIfs, denEO, denOE, denOEs, denF, bnd, ret, readVar, peek, peekO, peekL, opn_bv, opn_var, opn_con, opn_glo, opn_tup, opn_lst, opn_bin, opn_sub, opn_att, opn_bi1, opn_call, opn_callK, opn_cmp, opn_ss, opn_sl, cmpM, subM, subB, attM, unaM, setSlot, setSlots, setV, setT, setTs, doCall, mutF, tst, andThen, ofO_s, leafD_l, tr_b, env_call, env_fn, env_wf, env_glob, conD, rtM, itD_l, itD_t, OD.toD, cmpD, e]
      have b : bi1D .len (OD.fl (d0 :: left)).toD = some (.int (d0 :: left).length) := rfl
      have e5 : execs (G m) s24_0 ⟨[.ref 0, x, .own (.fl (d0 :: left)), .own (.fl found)], S⟩ = some (.nx, ⟨[.ref 0, x, .own (.fl ((d0 :: left).eraseIdx r)), .own (.fl (found ++ [(d0 :: left)[r]]))], S1⟩) := by
        refine (r_nx (x_exp (v_mth1 rfl (v_mth1 rfl (L1 := [.ref 0, x, .own (.fl (d0 :: left)), .own (.fl found)]) (S1 := S1) (a := .int r) ?_ rfl (mm_pop (by omega) hr')) rfl (mm_append (by omega))))).trans rfl
        simp only [exec, execs, den, dens, denB, denAs, denKs, denIt, denIfs, denEO, denOE, denOEs, denF, bnd, ret, readVar, peek, peekO, peekL, opn_bv, opn_var, opn_con, opn_glo, opn_tup, opn_lst, opn_bin, opn_sub, opn_att, opn_bi1, opn_call, opn_callK, opn_cmp, opn_ss, opn_sl, cmpM, subM, subB, attM, unaM, setSlot, setSlots, setV, setT, setTs, doCall, mutF, tst, andThen, ofO_s, leafD_l, tr_b, env_call, env_fn, env_wf, env_glob, conD, rtM, itD_l, itD_t, List.getElem?_cons_succ, List.getElem?_cons_zero, List.set_cons_succ, List.set_cons_zero, b, ed]
      rw [bnd_ok e2]
      simp only [if_true, turnEnd, bnd_ok e5, p3]
theorem mixed (hn : 2 ≤ n) {xs : List D} (h2 : xs.length < 1000) (hg : ∀ d ∈ xs, gd 10 d) (hS : Pot S) : ∃ (ys : List D) (S' : List OD), Pot S' ∧ ys.Perm xs ∧ cl n 24 [.ref 0, .val (.lst xs)] S = some (.leaf (.lst ys), S') := by
  obtain ⟨ys, S', p1, p2, p3⟩ := mixed_loop (m := n - 1) (by omega) (x := .val (.lst xs)) 1000 (left := xs) (found := []) h2 (by simpa using h2) hS hg
  refine ⟨ys, S', p1, by simpa using p2, ?_⟩
  refine call_ok (d := d24) rfl (by omega) rfl (L' := [.ref 0, .val (.lst xs), .own (.fl []), .val (.lst ys)]) ?_
  show execs _ (.cons t24_0 (.cons t24_1 (.cons t24_2 .nil))) ⟨[.ref 0, .val (.lst xs), .no, .no], _⟩ = _
  rw [r_nx (s1 := ⟨[.ref 0, .val (.lst xs), .own (.fl xs), .own (.fl [])], S⟩) (by simp [t24_0, exec, execs, den, dens, denB, denAs, denKs, denIt, denIfs, denEO, denOE, denOEs, denF, bnd, ret, readVar, peek, peekO, peekL, opn_bv, opn_var, opn_con, opn_glo, opn_tup, opn_lst, opn_bin, opn_sub, opn_att, opn_bi1, opn_call, opn_callK, opn_cmp, opn_ss, opn_sl, cmpM, subM, subB, attM, unaM, setSlot, setSlots, setV, setT, setTs, doCall, mutF, tst, andThen, ofO_s, leafD_l, tr_b, env_call, env_fn, env_wf, env_glob, conD, rtM, itD_l, itD_t])]
  rw [r_nx (s1 := ⟨[.ref 0, .val (.lst xs), .own (.fl []), .own (.fl ys)], S'⟩)]
  · refine r_rt ?_
    simp [t24_2, exec, execs, den, dens, denB, denAs, denKs, denIt, denIfs, denEO, denOE, denOEs, denF, bnd, ret, readVar, peek, peekO, peekL, opn_bv, opn_var, opn_con, opn_glo, opn_tup, opn_lst, opn_bin, opn_sub, opn_att, opn_bi1, opn_call, opn_callK, opn_cmp, opn_ss, opn_sl, cmpM, subM, subB, attM, unaM, setSlot, setSlots, setV, setT, setTs, doCall, mutF, tst, andThen, ofO_s, leafD_l, tr_b, env_call, env_fn, env_wf, env_glob, conD, rtM, itD_l, itD_t, OD.toD]
  · rw [t24_1, exec]
    exact p3
theorem pot (hn : 1 ≤ n) {ns : List Int} {k : Nat} (hk : k < 2) : ∃ a b : Int, 0 ≤ a ∧ 0 ≤ b ∧ b < 2147483647 ∧ cl n 21 [.val (.scr ns), .val (.int k)] S = some (.fl [.int a, .int b], S) := by
  obtain ⟨c, hc, e⟩ : ∃ c : Int, 0 ≤ c ∧ execs (G (n - 1)) (.cons t21_0 (.cons t21_1 (.cons t21_2 .nil))) ⟨[.val (.scr ns), .val (.int k), .no], S⟩ = execs (G (n - 1)) (.cons t21_2 .nil) ⟨[.val (.scr ns), .val (.int k), .val (.int c)], S⟩ := by
    have z : binD .Mult (.int 181) (.int k) = some (.int (181 * k)) := bMul (by omega)
    by_cases h : k < ns.length
    · refine ⟨(if ns[k] < 0 then -ns[k] else ns[k]), by split <;> omega, ?_⟩
      rw [r_nx (s1 := ⟨[.val (.scr ns), .val (.int k), .val (.int (181 * k + 89))], S⟩) (by simp [t21_0, exec, execs, den, dens, denB, denAs, denKs, denIt, denIfs, denEO, denOE, denOEs, denF, bnd, ret, readVar, peek, peekO, peekL, opn_bv, opn_var, opn_con, opn_glo, opn_tup, opn_lst, opn_bin, opn_sub, opn_att, opn_bi1, opn_call, opn_callK, opn_cmp, opn_ss, opn_sl, cmpM, subM, subB, attM, unaM, setSlot, setSlots, setV, setT, setTs, doCall, mutF, tst, andThen, ofO_s, leafD_l, tr_b, env_call, env_fn, env_wf, env_glob, conD, rtM, itD_l, itD_t, z, bAdd])]
      rw [r_nx]
      have e2 : ixD (.scr ns) (.int k) = some (.int ns[k]) := by simp [ixD, atI, ixN, h]
      have e3 : bi1D .len (.scr ns) = some (.int ns.length) := rfl
      simp [t21_1, s21_0, u21_0, exec, execs, den, dens, denB, denAs, denKs, denIt, denIfs, denEO, denOE, denOEs, denF, bnd, ret, readVar, peek, peekO, peekL, opn_bv, opn_var, opn_con, opn_glo, opn_tup, opn_lst, opn_bin, opn_sub, opn_att, opn_bi1, opn_call, opn_callK, opn_cmp, opn_ss, opn_sl, cmpM, subM, subB, attM, unaM, setSlot, setSlots, setV, setT, setTs, doCall, mutF, tst, andThen, ofO_s, leafD_l, tr_b, env_call, env_fn, env_wf, env_glob, conD, rtM, itD_l, itD_t, cmpD, cmpI, e3, h, e2, bi1D]
    · refine ⟨181 * k + 89, by omega, ?_⟩
      rw [r_nx (s1 := ⟨[.val (.scr ns), .val (.int k), .val (.int (181 * k + 89))], S⟩) (by simp [t21_0, exec, execs, den, dens, denB, denAs, denKs, denIt, denIfs, denEO, denOE, denOEs, denF, bnd, ret, readVar, peek, peekO, peekL, opn_bv, opn_var, opn_con, opn_glo, opn_tup, opn_lst, opn_bin, opn_sub, opn_att, opn_bi1, opn_call, opn_callK, opn_cmp, opn_ss, opn_sl, cmpM, subM, subB, attM, unaM, setSlot, setSlots, setV, setT, setTs, doCall, mutF, tst, andThen, ofO_s, leafD_l, tr_b, env_call, env_fn, env_wf, env_glob, conD, rtM, itD_l, itD_t, z, bAdd])]
      rw [r_nx]
      have e3 : bi1D .len (.scr ns) = some (.int ns.length) := rfl
      simp [t21_1, s21_0, u21_0, exec, execs, den, dens, denB, denAs, denKs, denIt, denIfs, denEO, denOE, denOEs, denF, bnd, ret, readVar, peek, peekO, peekL, opn_bv, opn_var, opn_con, opn_glo, opn_tup, opn_lst, opn_bin, opn_sub, opn_att, opn_bi1, opn_call, opn_callK, opn_cmp, opn_ss, opn_sl, cmpM, subM, subB, attM, unaM, setSlot, setSlots, setV, setT, setTs, doCall, mutF, tst, andThen, ofO_s, leafD_l, tr_b, env_call, env_fn, env_wf, env_glob, conD, rtM, itD_l, itD_t, cmpD, cmpI, e3, h]
  have q1 : 0 ≤ (c % 2147483549 * 48271 + 9539 * k + 43) % 2147483497 := Int.emod_nonneg _ (by omega)
  have q2 : (c % 2147483549 * 48271 + 9539 * k + 43) % 2147483497 < 2147483497 := Int.emod_lt_of_pos _ (by omega)
  have m1 : binD .Mult (.int (c % 2147483549)) (.int 48271) = some (.int (c % 2147483549 * 48271)) := bMul (by omega)
  have m2 : binD .Mult (.int 9539) (.int k) = some (.int (9539 * k)) := bMul (by omega)
  have m3 : binD .Mod (.int c) (.int 2147483549) = some (.int (c % 2147483549)) := bMod (by omega)
  have m4 : binD .Mod (.int (c % 2147483549 * 48271 + 9539 * k + 43)) (.int 2147483497) = some (.int ((c % 2147483549 * 48271 + 9539 * k + 43) % 2147483497)) := bMod (by omega)
  have m5 : binD .Pow (.int 10) (.int 18) = some (.int 1000000000000000000) := by
    rw [bPow (by decide)]
    rfl
  have m6 : bi2D .max2 (.int 0) (.int (c - 1000000000000000000)) = some (.int (if c - 1000000000000000000 > 0 then c - 1000000000000000000 else 0)) := rfl
  refine ⟨if c - 1000000000000000000 > 0 then c - 1000000000000000000 else 0, (c % 2147483549 * 48271 + 9539 * k + 43) % 2147483497 + 1, by split <;> omega, by omega, by omega, ?_⟩
  refine call_ok (d := d21) rfl (by omega) rfl (L' := [.val (.scr ns), .val (.int k), .val (.int c)]) ?_
  refine Eq.trans e ?_
  refine r_rt ?_
  simp [t21_2, exec, execs, den, dens, denB, denAs, denKs, denIt, denIfs, denEO, denOE, denOEs, denF, bnd, ret, readVar, peek, peekO, peekL, opn_bv, opn_var, opn_con, opn_glo, opn_tup, opn_lst, opn_bin, opn_sub, opn_att, opn_bi1, opn_call, opn_callK, opn_cmp, opn_ss, opn_sl, cmpM, subM, subB, attM, unaM, setSlot, setSlots, setV, setT, setTs, doCall, mutF, tst, andThen, ofO_s, leafD_l, tr_b, env_call, env_fn, env_wf, env_glob, conD, rtM, itD_l, itD_t, m1, m2, m3, m4, m5, m6, bAdd, bSub, b1I, sizeLine]
end K44
end Dm

namespace Dm
open PySem L2
theorem gd.top {k : Nat} {d : D} (h : gd k d) : (∀ q fs, d ≠ .obj q fs) ∧ ∀ ns, d ≠ .scr ns := by
  refine ⟨fun q fs z => ?_, fun ns z => ?_⟩ <;> (subst z; have := h.1; rw [D.py] at this; simp [PyData.canLay0] at this)
theorem eqv_all_refl : ∀ {ds : List D}, (∀ d ∈ ds, PyData.eqv d.py d.py = true) → PyData.eqvAll (D.pys ds) (D.pys ds) = true
  | [], _ => by simp [D.pys, PyData.eqvAll]
  | d :: ds, h => by
    rw [D.pys, PyData.eqvAll, h d List.mem_cons_self, eqv_all_refl fun d hd => h d (List.mem_cons_of_mem _ hd)]; rfl
theorem allBl_true : ∀ {ds : List D}, (∀ d ∈ ds, d = .bl true) → bi1D .all (.lst ds) = some (.bl true) := by
  intro ds h
  have : allBl ds = some (List.replicate ds.length true) := by
    induction ds with
    | nil => rfl
    | cons d ds ih =>
      rw [h d List.mem_cons_self, allBl, ih fun d hd => h d (List.mem_cons_of_mem _ hd)]; rfl
  show (allBl ds).map _ = _
  rw [this]
  simp
theorem allBl_map {ds : List D} {p : D → Bool} : bi1D .all (.lst (ds.map fun d => .bl (p d))) = some (.bl (ds.all p)) := by
  have : allBl (ds.map fun d => D.bl (p d)) = some (ds.map p) := by
    induction ds with
    | nil => rfl
    | cons d ds ih => rw [List.map_cons, allBl, ih]; rfl
  show (allBl _).map _ = _
  rw [this]
  simp [List.all_map]
theorem anyBl_map {ds : List D} {p : D → Bool} : bi1D .any (.lst (ds.map fun d => .bl (p d))) = some (.bl (ds.any p)) := by
  have : allBl (ds.map fun d => D.bl (p d)) = some (ds.map p) := by
    induction ds with
    | nil => rfl
    | cons d ds ih => rw [List.map_cons, allBl, ih]; rfl
  show (allBl _).map _ = _
  rw [this]
  simp [List.any_map]
theorem enum_mem : ∀ {ds : List D} {k : Nat} {v : D}, v ∈ enumD k ds → ∃ (i : Nat) (d : D), v = .tup [.int i, d] ∧ d ∈ ds
  | [], _, _, h => by simp [enumD] at h
  | d :: ds, k, v, h => by
    rw [enumD, List.mem_cons] at h
    rcases h with rfl | h
    · exact ⟨k, d, rfl, List.mem_cons_self⟩
    · obtain ⟨i, d', e, hd⟩ := enum_mem h
      exact ⟨i, d', e, List.mem_cons_of_mem _ hd⟩
namespace K44
variable {n : Nat} {S : List OD}
def rowL (n : Nat) (g : Nat → Nat) : List D := (List.range n).map fun y => .int (g y)
def rowsL (n : Nat) (f : Nat → Nat → Nat) : List D := (List.range n).map fun x => .lst (rowL n (f x))
def tupsL (n : Nat) (f : Nat → Nat → Nat) : List D := (List.range n).map fun x => .tup (rowL n (f x))
def rowsD (n : Nat) (f : Nat → Nat → Nat) : D := .lst (rowsL n f)
def tabD (n : Nat) (f : Nat → Nat → Nat) : D := .obj 0 [.tup (tupsL n f)]
structure Tb (n : Nat) (f : Nat → Nat → Nat) : Prop where
  pos : 1 ≤ n
  most : n ≤ 7
  in' : ∀ x, x < n → ∀ y, y < n → f x y < n
theorem rowL_len {g : Nat → Nat} : (rowL n g).length = n := by simp [rowL]
theorem rowsL_len {f : Nat → Nat → Nat} : (rowsL n f).length = n := by simp [rowsL]
theorem tupsL_len {f : Nat → Nat → Nat} : (tupsL n f).length = n := by simp [tupsL]
theorem rowL_at {g : Nat → Nat} {y : Nat} (h : y < n) : (rowL n g)[y]? = some (.int (g y)) := by simp [rowL, h]
theorem rowsL_at {f : Nat → Nat → Nat} {y : Nat} (h : y < n) : (rowsL n f)[y]? = some (.lst (rowL n (f y))) := by simp [rowsL, h]
theorem tupsL_at {f : Nat → Nat → Nat} {y : Nat} (h : y < n) : (tupsL n f)[y]? = some (.tup (rowL n (f y))) := by simp [tupsL, h]
theorem rowL_mem {g : Nat → Nat} {d : D} (h : d ∈ rowL n g) : ∃ y, y < n ∧ d = .int (g y) := by
  unfold rowL at h
  obtain ⟨y, hy, rfl⟩ := List.mem_map.mp h
  exact ⟨y, List.mem_range.mp hy, rfl⟩
theorem rowsL_mem {f : Nat → Nat → Nat} {d : D} (h : d ∈ rowsL n f) : ∃ x, x < n ∧ d = .lst (rowL n (f x)) := by
  unfold rowsL at h
  obtain ⟨y, hy, rfl⟩ := List.mem_map.mp h
  exact ⟨y, List.mem_range.mp hy, rfl⟩
theorem tupsL_mem {f : Nat → Nat → Nat} {d : D} (h : d ∈ tupsL n f) : ∃ x, x < n ∧ d = .tup (rowL n (f x)) := by
  unfold tupsL at h
  obtain ⟨y, hy, rfl⟩ := List.mem_map.mp h
  exact ⟨y, List.mem_range.mp hy, rfl⟩
def isV (n : Nat) : D → Bool
  | .int i => decide (0 ≤ i ∧ i < (n : Int))
  | _ => false
def isInt : D → Bool
  | .int _ => true
  | _ => false
theorem sp0 {m k : Nat} (hm : 1 ≤ m) {d : D} (h : gd k d) : cl m 0 [.val d] S = some (.leaf (.bl (isInt d)), S) := by
  refine call_ok (d := d0) rfl hm rfl (L' := [.val d]) ?_
  cases d with
  | obj q fs => exact absurd rfl (h.top.1 q fs)
  | scr ns => exact absurd rfl (h.top.2 ns)
  | _ => rfl
theorem sp1 {m : Nat} (hm : 1 ≤ m) {xs : List D} : cl m 1 [.val (.lst xs)] S = some (.leaf (.bl true), S) :=
  call_ok (d := d1) rfl hm rfl (L' := [.val (.lst xs)]) rfl
theorem sp2 {m k : Nat} (hm : 2 ≤ m) {d : D} (h : gd k d) : cl m 2 [.val d, .val (.int n)] S = some (.leaf (.bl (isV n d)), S) := by
  refine call_ok (d := d2) rfl (by omega) rfl (L' := [.val d, .val (.int n)]) ?_
  have e := sp0 (m := m - 1) (S := S) (by omega) h
  show execs _ (.cons t2_0 .nil) ⟨[.val d, .val (.int n)], S⟩ = _
  refine r_rt ?_
  cases d with
  | int i =>
    by_cases hi : 0 ≤ i
    · simp [t2_0, exec, execs, den, dens, denB, denAs, denKs, denIt, denIfs, denEO, denOE, denOEs, denF, bnd, ret, readVar, peek, peekO, peekL, opn_bv, opn_var, opn_con, opn_glo, opn_tup, opn_lst, opn_bin, opn_sub, opn_att, opn_bi1, opn_call, opn_callK, opn_cmp, opn_ss, opn_sl, cmpM, subM, subB, attM, unaM, setSlot, setSlots, setV, setT, setTs, doCall, mutF, tst, andThen, ofO_s, leafD_l, tr_b, env_call, env_fn, env_wf, env_glob, conD, rtM, itD_l, itD_t, e, isInt, cmpD, cmpI, isV, hi]
    · simp [t2_0, exec, execs, den, dens, denB, denAs, denKs, denIt, denIfs, denEO, denOE, denOEs, denF, bnd, ret, readVar, peek, peekO, peekL, opn_bv, opn_var, opn_con, opn_glo, opn_tup, opn_lst, opn_bin, opn_sub, opn_att, opn_bi1, opn_call, opn_callK, opn_cmp, opn_ss, opn_sl, cmpM, subM, subB, attM, unaM, setSlot, setSlots, setV, setT, setTs, doCall, mutF, tst, andThen, ofO_s, leafD_l, tr_b, env_call, env_fn, env_wf, env_glob, conD, rtM, itD_l, itD_t, e, isInt, cmpD, cmpI, isV, hi]
  | _ => simp [t2_0, exec, execs, den, dens, denB, denAs, denKs, denIt, denIfs, denEO, denOE, denOEs, denF, bnd, ret, readVar, peek, peekO, peekL, opn_bv, opn_var, opn_con, opn_glo, opn_tup, opn_lst, opn_bin, opn_sub, opn_att, opn_bi1, opn_call, opn_callK, opn_cmp, opn_ss, opn_sl, cmpM, subM, subB, attM, unaM, setSlot, setSlots, setV, setT, setTs, doCall, mutF, tst, andThen, ofO_s, leafD_l, tr_b, env_call, env_fn, env_wf, env_glob, conD, rtM, itD_l, itD_t, e, isInt, isV]
theorem att_own {x : D} : attO Pr.fn 0 "own_rows" (.leaf (.obj 0 [x])) = some x := by
  simp only [attO]
  rw [if_pos (by rfl)]
  rfl
theorem sp9 {m k : Nat} (hm : 3 ≤ m) {f : Nat → Nat → Nat} {d : D} (h : gd k d) : cl m 9 [.val (tabD n f), .val d] S = some (.leaf (.bl (isV n d)), S) := by
  refine call_ok (d := d9) rfl (by omega) rfl (L' := [.val (tabD n f), .val d]) ?_
  have e := sp2 (m := m - 1) (n := n) (S := S) (by omega) h
  have e2 : bi1D .len (.tup (tupsL n f)) = some (.int n) := by rw [b1T, tupsL_len]
  have e3 : attO Pr.fn 0 "own_rows" (.leaf (tabD n f)) = some (.tup (tupsL n f)) := att_own
  show execs _ (.cons t9_0 .nil) ⟨[.val (tabD n f), .val d], S⟩ = _
  refine r_rt ?_
  simp [t9_0, exec, execs, den, dens, denB, denAs, denKs, denIt, denIfs, denEO, denOE, denOEs, denF, bnd, ret, readVar, peek, peekO, peekL, opn_bv, opn_var, opn_con, opn_glo, opn_tup, opn_lst, opn_bin, opn_sub, opn_att, opn_bi1, opn_call, opn_callK, opn_cmp, opn_ss, opn_sl, cmpM, subM, subB, attM, unaM, setSlot, setSlots, setV, setT, setTs, doCall, mutF, tst, andThen, ofO_s, leafD_l, tr_b, env_call, env_fn, env_wf, env_glob, conD, rtM, itD_l, itD_t, e, e2, e3]
end K44
end Dm

namespace Dm
open PySem L2
namespace K44
variable {n m : Nat} {S : List OD} {f : Nat → Nat → Nat}
/-! ### tables are made -/
theorem gd_rowL {g : Nat → Nat} {k : Nat} : ∀ d ∈ rowL n g, gd k d := fun d hd => by
  obtain ⟨y, _, rfl⟩ := rowL_mem hd
  exact gd_int
theorem it_l {Γ : Env} {i : Nat} {x : Str} {p : Pos} {L : List Slot} {xs : List D} (h : L[i]? = some (.val (.lst xs))) : denIt Γ (.e (.var i x p)) ⟨L, S⟩ = some (xs, ⟨L, S⟩) := by
  simp only [denIt, den, bnd, readVar, h, itD, ofO_s, ret]
def tupOf : D → D
  | .lst xs => .tup xs
  | d => d
theorem sp3 (hT : Tb n f) (hm : 3 ≤ m) {o : OD} : cl m 3 [.ref 1, .val (rowsD n f)] [o, .oobj 0 []] = some (.leaf .non, [o, .oobj 0 [.tup (tupsL n f)]]) := by
  obtain ⟨m, rfl⟩ : ∃ k, m = k + 1 := ⟨m - 1, by omega⟩
  have h7 := hT.most
  have h1 := hT.pos
  have ea := sp1 (m := m) (S := [o, .oobj 0 []]) (by omega) (xs := rowsL n f)
  have el : bi1D .len (rowsD n f) = some (.int n) := by unfold rowsD; rw [b1L, rowsL_len]
  -- the size
  have g1 : exec (G m) t3_0 ⟨[.ref 1, .val (rowsD n f), .no, .no, .no], [o, .oobj 0 []]⟩ = some (.nx, ⟨[.ref 1, .val (rowsD n f), .no, .no, .no], [o, .oobj 0 []]⟩) := by
    have eg : Pr.glob 0 = some (.int 7) := rfl
    have ea' : cl m 1 [.val (rowsD n f)] [o, .oobj 0 []] = _ := ea
    have c1 : cmpD .LtE (.int 1) (.int n) = some (.bl true) := by simp [cmpD, cmpI]; omega
    have c2 : cmpD .LtE (.int n) (.int 7) = some (.bl true) := by simp [cmpD, cmpI]; omega
    simp [t3_0, exec, execs, den, dens, denB, denAs, denKs, denIt, denIfs, denEO, denOE, denOEs, denF, bnd, ret, readVar, peek, peekO, peekL, opn_bv, opn_var, opn_con, opn_glo, opn_tup, opn_lst, opn_bin, opn_sub, opn_att, opn_bi1, opn_call, opn_callK, opn_cmp, opn_ss, opn_sl, cmpM, subM, subB, attM, unaM, setSlot, setSlots, setV, setT, setTs, doCall, mutF, tst, andThen, ofO_s, leafD_l, tr_b, env_call, env_fn, env_wf, env_glob, conD, rtM, itD_l, itD_t, ea', el, eg, c1, c2]
  -- the rows
  obtain ⟨s1, g2, ⟨y1, y2, hy, rfl⟩⟩ := for_inv (t := .tp (.cons (.nm 2 "position" (P 35 12 20)) (.cons (.nm 3 "row" (P 35 22 25)) .nil)) 0 (P 35 12 25)) (body := execs (G m) s3_2) (fun s => ∃ y1 y2, (y2 = .no ∨ ∃ d, y2 = .val d) ∧ s = ⟨[.ref 1, .val (rowsD n f), y1, y2, .no], [o, .oobj 0 []]⟩) (items := enumD 0 (rowsL n f))
    (fun v hv s hs => by
      obtain ⟨y1, y2, _, rfl⟩ := hs
      obtain ⟨i, d, rfl, hd⟩ := enum_mem hv
      obtain ⟨x, hx, rfl⟩ := rowsL_mem hd
      refine ⟨⟨[.ref 1, .val (rowsD n f), .val (.int i), .val (.lst (rowL n (f x))), .no], [o, .oobj 0 []]⟩, ⟨[.ref 1, .val (rowsD n f), .val (.int i), .val (.lst (rowL n (f x))), .no], [o, .oobj 0 []]⟩, by simp [exec, execs, den, dens, denB, denAs, denKs, denIt, denIfs, denEO, denOE, denOEs, denF, bnd, ret, readVar, peek, peekO, peekL, opn_bv, opn_var, opn_con, opn_glo, opn_tup, opn_lst, opn_bin, opn_sub, opn_att, opn_bi1, opn_call, opn_callK, opn_cmp, opn_ss, opn_sl, cmpM, subM, subB, attM, unaM, setSlot, setSlots, setV, setT, setTs, doCall, mutF, tst, andThen, ofO_s, leafD_l, tr_b, env_call, env_fn, env_wf, env_glob, conD, rtM, itD_l, itD_t], ?_, _, _, .inr ⟨_, rfl⟩, rfl⟩
      have eb := sp1 (m := m) (S := [o, .oobj 0 []]) (by omega) (xs := rowL n (f x))
      have ec : den (G m) c3_0 ⟨[.ref 1, .val (rowsD n f), .val (.int i), .val (.lst (rowL n (f x))), .no], [o, .oobj 0 []]⟩ = some (.lst ((rowL n (f x)).map fun _ => .bl true), ⟨[.ref 1, .val (rowsD n f), .val (.int i), .val (.lst (rowL n (f x))), .no], [o, .oobj 0 []]⟩) := by
        refine comp1p (fun _ => .bl true) (.inl rfl) (it_l rfl) (by rw [rowL_len]; unfold sizeLine; omega) fun v hv => ?_
        obtain ⟨y, hy, rfl⟩ := rowL_mem hv
        have e2 := sp2 (m := m) (n := n) (S := [o, .oobj 0 []]) (by omega) (gd_int (k := 0) (i := (f x y : Nat)))
        have e3 : isV n (.int (f x y : Nat)) = true := by simp [isV]; exact hT.in' x hx y hy
        rw [e3] at e2
        simp [exec, execs, den, dens, denB, denAs, denKs, denIt, denIfs, denEO, denOE, denOEs, denF, bnd, ret, readVar, peek, peekO, peekL, opn_bv, opn_var, opn_con, opn_glo, opn_tup, opn_lst, opn_bin, opn_sub, opn_att, opn_bi1, opn_call, opn_callK, opn_cmp, opn_ss, opn_sl, cmpM, subM, subB, attM, unaM, setSlot, setSlots, setV, setT, setTs, doCall, mutF, tst, andThen, ofO_s, leafD_l, tr_b, env_call, env_fn, env_wf, env_glob, conD, rtM, itD_l, itD_t, el, e2]
      have el2 : bi1D .len (.lst (rowL n (f x))) = some (.int n) := by rw [b1L, rowL_len]
      have e4 : bi1D .all (.lst ((rowL n (f x)).map fun _ => .bl true)) = some (.bl true) := allBl_true fun d hd => by
        obtain ⟨_, _, rfl⟩ := List.mem_map.mp hd; rfl
      have e5 : cmpD .NotEq (.int n) (.int n) = some (.bl false) := by simp [cmpD, eq_int]
      unfold s3_2
      rw [r_nx (s1 := ⟨[.ref 1, .val (rowsD n f), .val (.int i), .val (.lst (rowL n (f x))), .no], [o, .oobj 0 []]⟩)]
      · rfl
      · have ho : ∀ mm, opn mm c3_0 = mm := fun _ => rfl
        simp [u3_2, exec, execs, den, dens, denB, denAs, denKs, denIt, denIfs, denEO, denOE, denOEs, denF, bnd, ret, readVar, peek, peekO, peekL, opn_bv, opn_var, opn_con, opn_glo, opn_tup, opn_lst, opn_bin, opn_sub, opn_att, opn_bi1, opn_call, opn_callK, opn_cmp, opn_ss, opn_sl, cmpM, subM, subB, attM, unaM, setSlot, setSlots, setV, setT, setTs, doCall, mutF, tst, andThen, ofO_s, leafD_l, tr_b, env_call, env_fn, env_wf, env_glob, conD, rtM, itD_l, itD_t, ho, eb, el, el2, ec, e4, e5]) ⟨.no, .no, .inl rfl, rfl⟩
  have g3 : exec (G m) t3_1 ⟨[.ref 1, .val (rowsD n f), .no, .no, .no], [o, .oobj 0 []]⟩ = some (.nx, ⟨[.ref 1, .val (rowsD n f), y1, y2, .no], [o, .oobj 0 []]⟩) := by
    have ei : denIt (G m) (.enu (.var 1 "rows" (P 35 39 43)) (P 35 29 38) (P 35 29 44)) ⟨[.ref 1, .val (rowsD n f), .no, .no, .no], [o, .oobj 0 []]⟩ = some (enumD 0 (rowsL n f), ⟨[.ref 1, .val (rowsD n f), .no, .no, .no], [o, .oobj 0 []]⟩) := by
      simp [exec, execs, den, dens, denB, denAs, denKs, denIt, denIfs, denEO, denOE, denOEs, denF, bnd, ret, readVar, peek, peekO, peekL, opn_bv, opn_var, opn_con, opn_glo, opn_tup, opn_lst, opn_bin, opn_sub, opn_att, opn_bi1, opn_call, opn_callK, opn_cmp, opn_ss, opn_sl, cmpM, subM, subB, attM, unaM, setSlot, setSlots, setV, setT, setTs, doCall, mutF, tst, andThen, ofO_s, leafD_l, tr_b, env_call, env_fn, env_wf, env_glob, conD, rtM, itD_l, itD_t, rowsD]
    unfold t3_1
    rw [exec, bnd_ok ei]
    exact g2
  have g4 : den (G m) c3_1 ⟨[.ref 1, .val (rowsD n f), y1, y2, .no], [o, .oobj 0 []]⟩ = some (.lst ((rowsL n f).map tupOf), ⟨[.ref 1, .val (rowsD n f), y1, y2, .no], [o, .oobj 0 []]⟩) := by
    refine comp1p tupOf (by rcases hy with rfl | ⟨d, rfl⟩ <;> simp) (it_l rfl) (by rw [rowsL_len]; unfold sizeLine; omega) fun v hv => ?_
    obtain ⟨x, hx, rfl⟩ := rowsL_mem hv
    simp [exec, execs, den, dens, denB, denAs, denKs, denIt, denIfs, denEO, denOE, denOEs, denF, bnd, ret, readVar, peek, peekO, peekL, opn_bv, opn_var, opn_con, opn_glo, opn_tup, opn_lst, opn_bin, opn_sub, opn_att, opn_bi1, opn_call, opn_callK, opn_cmp, opn_ss, opn_sl, cmpM, subM, subB, attM, unaM, setSlot, setSlots, setV, setT, setTs, doCall, mutF, tst, andThen, ofO_s, leafD_l, tr_b, env_call, env_fn, env_wf, env_glob, conD, rtM, itD_l, itD_t, convD, tupOf]
  have g5 : (rowsL n f).map tupOf = tupsL n f := by simp [rowsL, tupsL, tupOf]
  rw [g5] at g4
  have g6 : exec (G m) t3_2 ⟨[.ref 1, .val (rowsD n f), y1, y2, .no], [o, .oobj 0 []]⟩ = some (.nx, ⟨[.ref 1, .val (rowsD n f), y1, y2, .no], [o, .oobj 0 [.tup (tupsL n f)]]⟩) := by
    have gf : (Pr.fn 0)[0]? = some (("own_rows" : Str)) := rfl
    unfold t3_2
    rw [exec, den]
    rw [bnd_ok ((bnd_ok g4).trans (show ofO (convD .tuple (.lst (tupsL n f))) _ = some (.tup (tupsL n f), _) from rfl))]
    simp [bnd, setFld, env_fn, gf, ret]
  refine call_nx (d := d3) rfl (by omega) rfl (L' := [.ref 1, .val (rowsD n f), y1, y2, .no]) ?_
  show execs (G m) (.cons t3_0 (.cons t3_1 (.cons t3_2 .nil))) ⟨[.ref 1, .val (rowsD n f), .no, .no, .no], [o, .oobj 0 []]⟩ = _
  rw [r_nx g1, r_nx g3, r_nx g6]
  rfl
theorem new_tab (hT : Tb n f) (hm : 3 ≤ m) {o : OD} {L : List Slot} : make (G m) 0 3 [.val (rowsD n f)] ⟨L, [o]⟩ = some (tabD n f, ⟨L, [o]⟩) := by
  have e := sp3 hT hm (o := o)
  unfold make
  rw [if_pos (by simp [refsIn])]
  simp only [env_call, List.length_singleton, List.singleton_append]
  rw [e]
  rfl
theorem sp6 (hm : 1 ≤ m) : cl m 6 [.val (tabD n f)] S = some (.leaf (.int n), S) := by
  refine call_ok (d := d6) rfl (by omega) rfl (L' := [.val (tabD n f)]) ?_
  have e2 : bi1D .len (.tup (tupsL n f)) = some (.int n) := by rw [b1T, tupsL_len]
  have e3 : attO Pr.fn 0 "own_rows" (.leaf (tabD n f)) = some (.tup (tupsL n f)) := att_own
  show execs _ (.cons t6_0 .nil) ⟨[.val (tabD n f)], S⟩ = _
  refine r_rt ?_
  simp [t6_0, exec, execs, den, dens, denB, denAs, denKs, denIt, denIfs, denEO, denOE, denOEs, denF, bnd, ret, readVar, peek, peekO, peekL, opn_bv, opn_var, opn_con, opn_glo, opn_tup, opn_lst, opn_bin, opn_sub, opn_att, opn_bi1, opn_call, opn_callK, opn_cmp, opn_ss, opn_sl, cmpM, subM, subB, attM, unaM, setSlot, setSlots, setV, setT, setTs, doCall, mutF, tst, andThen, ofO_s, leafD_l, tr_b, env_call, env_fn, env_wf, env_glob, conD, rtM, itD_l, itD_t, e2, e3]
theorem sp7 (hm : 1 ≤ m) : cl m 7 [.val (tabD n f), .val (tabD n f)] S = some (.leaf (.bl true), S) := by
  refine call_ok (d := d7) rfl (by omega) rfl (L' := [.val (tabD n f), .val (tabD n f)]) ?_
  have e3 : attO Pr.fn 0 "own_rows" (.leaf (tabD n f)) = some (.tup (tupsL n f)) := att_own
  have hg : gd 2 (.tup (tupsL n f)) := gd_tup fun d hd => by
    obtain ⟨x, _, rfl⟩ := tupsL_mem hd
    exact gd_tup gd_rowL
  have e4 : cmpD .Eq (.tup (tupsL n f)) (.tup (tupsL n f)) = some (.bl true) := by
    show (eqD _ _).map _ = _
    rw [eqD_gd hg hg (by omega) (by omega)]
    rw [D.py, PyData.eqv, eqv_all_refl]
    · rfl
    · intro d hd
      obtain ⟨x, _, rfl⟩ := tupsL_mem hd
      rw [D.py, PyData.eqv, eqv_all_refl]
      intro d hd
      obtain ⟨y, _, rfl⟩ := rowL_mem hd
      simp [D.py, PyData.eqv]
  have e5 : isiCD 0 (tabD n f) = some true := by simp [tabD, isiCD]
  show execs _ (.cons t7_0 .nil) ⟨[.val (tabD n f), .val (tabD n f)], S⟩ = _
  refine r_rt ?_
  simp [t7_0, exec, execs, den, dens, denB, denAs, denKs, denIt, denIfs, denEO, denOE, denOEs, denF, bnd, ret, readVar, peek, peekO, peekL, opn_bv, opn_var, opn_con, opn_glo, opn_tup, opn_lst, opn_bin, opn_sub, opn_att, opn_bi1, opn_call, opn_callK, opn_cmp, opn_ss, opn_sl, cmpM, subM, subB, attM, unaM, setSlot, setSlots, setV, setT, setTs, doCall, mutF, tst, andThen, ofO_s, leafD_l, tr_b, env_call, env_fn, env_wf, env_glob, conD, rtM, itD_l, itD_t, e3, e4, e5]
end K44
end Dm

namespace Dm
open PySem L2
namespace K44
variable {n m : Nat} {S : List OD} {f : Nat → Nat → Nat}
/-! ### things as trees of pairs -/
inductive Tr where
  | lf (d : D)
  | nd (a b : Tr)
def Tr.d : Tr → D
  | .lf d => d
  | .nd a b => .tup [a.d, b.d]
def Tr.ok : Tr → Prop
  | .lf d => (∀ a b, d ≠ .tup [a, b]) ∧ gd 5 d
  | .nd a b => a.ok ∧ b.ok
def Tr.dep : Tr → Nat
  | .lf _ => 0
  | .nd a b => max a.dep b.dep + 1
def Tr.cnt : Tr → Nat
  | .lf _ => 1
  | .nd a b => a.cnt + b.cnt
def Tr.lv : Tr → List D
  | .lf d => [d]
  | .nd a b => b.lv ++ a.lv
def Tr.isNd : Tr → Bool
  | .lf _ => false
  | .nd _ _ => true
theorem Tr.cnt_pos : ∀ t : Tr, 1 ≤ t.cnt
  | .lf _ => Nat.le_refl _
  | .nd a b => by rw [Tr.cnt]; have := Tr.cnt_pos a; omega
theorem Tr.gd : ∀ {t : Tr}, t.ok → gd (5 + t.dep) t.d
  | .lf d, h => h.2
  | .nd a b, h => by
    rw [Tr.d, Tr.dep]
    refine gd_tup (k := 5 + max a.dep b.dep) fun d hd => ?_
    rcases List.mem_cons.mp hd with rfl | hd
    · exact (Tr.gd h.1).mono (by omega)
    · rw [List.mem_singleton] at hd; subst hd
      exact (Tr.gd h.2).mono (by omega)
theorem Tr.lv_ok : ∀ {t : Tr}, t.ok → ∀ d ∈ t.lv, Dm.gd 5 d
  | .lf d, h, x, hx => by rw [Tr.lv, List.mem_singleton] at hx; subst hx; exact h.2
  | .nd a b, h, x, hx => by
    rw [Tr.lv, List.mem_append] at hx
    rcases hx with hx | hx
    · exact Tr.lv_ok h.2 x hx
    · exact Tr.lv_ok h.1 x hx
theorem Tr.lv_len : ∀ t : Tr, t.lv.length = t.cnt
  | .lf _ => rfl
  | .nd a b => by rw [Tr.lv, Tr.cnt, List.length_append, Tr.lv_len, Tr.lv_len]; omega
theorem sp11 (hm : 1 ≤ m) {t : Tr} (h : t.ok) : cl m 11 [.val t.d] S = some (.leaf (.bl t.isNd), S) := by
  refine call_ok (d := d11) rfl hm rfl (L' := [.val t.d]) ?_
  show execs _ (.cons t11_0 .nil) ⟨[.val t.d], S⟩ = _
  refine r_rt ?_
  cases t with
  | nd a b =>
    have e : cmpD .Eq (.int 2) (.int 2) = some (.bl true) := by simp [cmpD, eq_int]
    simp [t11_0, exec, execs, den, dens, denB, denAs, denKs, denIt, denIfs, denEO, denOE, denOEs, denF, bnd, ret, readVar, peek, peekO, peekL, opn_bv, opn_var, opn_con, opn_glo, opn_tup, opn_lst, opn_bin, opn_sub, opn_att, opn_bi1, opn_call, opn_callK, opn_cmp, opn_ss, opn_sl, cmpM, subM, subB, attM, unaM, setSlot, setSlots, setV, setT, setTs, doCall, mutF, tst, andThen, ofO_s, leafD_l, tr_b, env_call, env_fn, env_wf, env_glob, conD, rtM, itD_l, itD_t, Tr.d, isiD, b1T, e, Tr.isNd]
  | lf d =>
    rw [Tr.d, Tr.isNd]
    cases d with
    | obj q fs => exact absurd rfl (h.2.top.1 q fs)
    | scr ns => exact absurd rfl (h.2.top.2 ns)
    | tup xs =>
      have e : cmpD .Eq (.int xs.length) (.int 2) = some (.bl false) := by
        simp only [cmpD, eq_int, Option.map_some]
        congr 2
        match xs, h.1 with
        | [], _ => rfl
        | [_], _ => rfl
        | [a, b], h => exact absurd rfl (h a b)
        | _ :: _ :: _ :: r, _ => simp; omega
      simp [t11_0, exec, execs, den, dens, denB, denAs, denKs, denIt, denIfs, denEO, denOE, denOEs, denF, bnd, ret, readVar, peek, peekO, peekL, opn_bv, opn_var, opn_con, opn_glo, opn_tup, opn_lst, opn_bin, opn_sub, opn_att, opn_bi1, opn_call, opn_callK, opn_cmp, opn_ss, opn_sl, cmpM, subM, subB, attM, unaM, setSlot, setSlots, setV, setT, setTs, doCall, mutF, tst, andThen, ofO_s, leafD_l, tr_b, env_call, env_fn, env_wf, env_glob, conD, rtM, itD_l, itD_t, isiD, b1T, e]
    | _ => simp [t11_0, exec, execs, den, dens, denB, denAs, denKs, denIt, denIfs, denEO, denOE, denOEs, denF, bnd, ret, readVar, peek, peekO, peekL, opn_bv, opn_var, opn_con, opn_glo, opn_tup, opn_lst, opn_bin, opn_sub, opn_att, opn_bi1, opn_call, opn_callK, opn_cmp, opn_ss, opn_sl, cmpM, subM, subB, attM, unaM, setSlot, setSlots, setV, setT, setTs, doCall, mutF, tst, andThen, ofO_s, leafD_l, tr_b, env_call, env_fn, env_wf, env_glob, conD, rtM, itD_l, itD_t, isiD]
end K44
end Dm

namespace Dm
open PySem L2
namespace K44
variable {n m : Nat} {S : List OD} {f : Nat → Nat → Nat}
theorem int_beq {a b : Nat} : ((a : Int) == (b : Int)) = (a == b) := by
  rw [Bool.eq_iff_iff, beq_iff_eq, beq_iff_eq]
  omega
def Tr.ml (n : Nat) (t : Tr) : Bool := t.lv.all (isV n)
def Tr.res (f : Nat → Nat → Nat) : Tr → Nat
  | .lf (.int i) => i.toNat
  | .lf _ => 0
  | .nd a b => f (a.res f) (b.res f)
theorem isV_int {d : D} (h : isV n d = true) : ∃ k : Nat, k < n ∧ d = .int k := by
  cases d <;> simp [isV] at h
  rename_i i
  refine ⟨i.toNat, by omega, ?_⟩
  congr 1
  omega
theorem Tr.ml_nd {a b : Tr} : (Tr.nd a b).ml n = (b.ml n && a.ml n) := by
  simp only [Tr.ml, Tr.lv, List.all_append]
theorem Tr.ml_ok : ∀ {t : Tr}, t.ml n = true → t.ok
  | .lf d, h => by
    obtain ⟨k, _, rfl⟩ := isV_int (by simpa [Tr.ml, Tr.lv] using h)
    exact ⟨(fun _ _ z => by cases z), gd_int⟩
  | .nd a b, h => by
    rw [Tr.ml_nd, Bool.and_eq_true] at h
    exact ⟨Tr.ml_ok h.2, Tr.ml_ok h.1⟩
theorem Tr.res_lt (hT : Tb n f) : ∀ {t : Tr}, t.ml n = true → t.res f < n
  | .lf d, h => by
    obtain ⟨k, hk, rfl⟩ := isV_int (by simpa [Tr.ml, Tr.lv] using h)
    simpa [Tr.res] using hk
  | .nd a b, h => by
    rw [Tr.ml_nd, Bool.and_eq_true] at h
    exact hT.in' _ (Tr.res_lt hT h.2) _ (Tr.res_lt hT h.1)
theorem sp14 (hT : Tb n f) : ∀ {t : Tr} {m : Nat}, t.ml n = true → t.dep + 2 ≤ m → cl m 14 [.val (tabD n f), .val t.d] S = some (.leaf (.int (t.res f)), S)
  | .lf d, m, h, hm => by
    have e := sp11 (m := m - 1) (S := S) (by omega) (Tr.ml_ok h)
    obtain ⟨k, hk, rfl⟩ := isV_int (by simpa [Tr.ml, Tr.lv] using h)
    refine call_ok (d := d14) rfl (by omega) rfl (L' := [.val (tabD n f), .val (.int k)]) ?_
    show execs _ (.cons t14_0 (.cons t14_1 .nil)) ⟨[.val (tabD n f), .val (.int k)], S⟩ = _
    simp only [Tr.isNd, Tr.d] at e
    rw [r_nx (s1 := ⟨[.val (tabD n f), .val (.int k)], S⟩) (by simp [t14_0, exec, execs, den, dens, denB, denAs, denKs, denIt, denIfs, denEO, denOE, denOEs, denF, bnd, ret, readVar, peek, peekO, peekL, opn_bv, opn_var, opn_con, opn_glo, opn_tup, opn_lst, opn_bin, opn_sub, opn_att, opn_bi1, opn_call, opn_callK, opn_cmp, opn_ss, opn_sl, cmpM, subM, subB, attM, unaM, setSlot, setSlots, setV, setT, setTs, doCall, mutF, tst, andThen, ofO_s, leafD_l, tr_b, env_call, env_fn, env_wf, env_glob, conD, rtM, itD_l, itD_t, e])]
    refine r_rt ?_
    simp [t14_1, exec, execs, den, dens, denB, denAs, denKs, denIt, denIfs, denEO, denOE, denOEs, denF, bnd, ret, readVar, peek, peekO, peekL, opn_bv, opn_var, opn_con, opn_glo, opn_tup, opn_lst, opn_bin, opn_sub, opn_att, opn_bi1, opn_call, opn_callK, opn_cmp, opn_ss, opn_sl, cmpM, subM, subB, attM, unaM, setSlot, setSlots, setV, setT, setTs, doCall, mutF, tst, andThen, ofO_s, leafD_l, tr_b, env_call, env_fn, env_wf, env_glob, conD, rtM, itD_l, itD_t, Tr.res]
  | .nd a b, m, h, hm => by
    have e := sp11 (m := m - 1) (S := S) (by omega) (Tr.ml_ok h)
    rw [Tr.ml_nd, Bool.and_eq_true] at h
    rw [Tr.dep] at hm
    have ea := sp14 hT (t := a) (m := m - 1) h.2 (by omega)
    have eb := sp14 hT (t := b) (m := m - 1) h.1 (by omega)
    have la := Tr.res_lt hT h.2
    have lb := Tr.res_lt hT h.1
    refine call_ok (d := d14) rfl (by omega) rfl (L' := [.val (tabD n f), .val (.tup [a.d, b.d])]) ?_
    show execs _ (.cons t14_0 (.cons t14_1 .nil)) ⟨[.val (tabD n f), .val (.tup [a.d, b.d])], S⟩ = _
    simp only [Tr.isNd, Tr.d] at e
    have e3 : attO Pr.fn 0 "own_rows" (.leaf (tabD n f)) = some (.tup (tupsL n f)) := att_own
    have i0 : ixD (.tup [a.d, b.d]) (.int 0) = some a.d := rfl
    have i1 : ixD (.tup [a.d, b.d]) (.int 1) = some b.d := rfl
    have i2 := ix_t (tupsL_at (f := f) la)
    have i3 := ix_t (rowL_at (g := f (a.res f)) lb)
    refine r_rt ?_
    simp [t14_0, s14_0, u14_0, exec, execs, den, dens, denB, denAs, denKs, denIt, denIfs, denEO, denOE, denOEs, denF, bnd, ret, readVar, peek, peekO, peekL, opn_bv, opn_var, opn_con, opn_glo, opn_tup, opn_lst, opn_bin, opn_sub, opn_att, opn_bi1, opn_call, opn_callK, opn_cmp, opn_ss, opn_sl, cmpM, subM, subB, attM, unaM, setSlot, setSlots, setV, setT, setTs, doCall, mutF, tst, andThen, ofO_s, leafD_l, tr_b, env_call, env_fn, env_wf, env_glob, conD, rtM, itD_l, itD_t, e, e3, i0, i1, i2, i3, ea, eb, Tr.res]
/-! ### partings -/
def intsD (ds : List D) : List Int := ds.filterMap fun | .int i => some i | _ => none
theorem allI_ml : ∀ {ds : List D}, ds.all (isV n) = true → allI ds = some (intsD ds) ∧ (intsD ds).length = ds.length
  | [], _ => ⟨rfl, rfl⟩
  | d :: ds, h => by
    rw [List.all_cons, Bool.and_eq_true] at h
    obtain ⟨k, hk, rfl⟩ := isV_int h.1
    obtain ⟨h1, h2⟩ := allI_ml h.2
    refine ⟨?_, ?_⟩
    · rw [allI, h1]; rfl
    · show (_ :: intsD ds).length = _
      rw [List.length_cons, h2, List.length_cons]
end K44
end Dm

namespace Dm
open PySem L2
namespace K44
variable {n m : Nat} {S : List OD} {f : Nat → Nat → Nat}
def Tr.vl : Tr → List D
  | .lf d => [d]
  | .nd a b => a.vl ++ b.vl
theorem Tr.vl_len : ∀ t : Tr, t.vl.length = t.cnt
  | .lf _ => rfl
  | .nd a b => by rw [Tr.vl, Tr.cnt, List.length_append, Tr.vl_len, Tr.vl_len]
theorem Tr.vl_mem {d : D} : ∀ {t : Tr}, d ∈ t.vl ↔ d ∈ t.lv
  | .lf _ => Iff.rfl
  | .nd a b => by rw [Tr.vl, Tr.lv, List.mem_append, List.mem_append, Tr.vl_mem, Tr.vl_mem]; exact Or.comm
theorem Tr.vl_all {t : Tr} : t.vl.all (isV n) = t.ml n := by
  rw [Tr.ml, Bool.eq_iff_iff, List.all_eq_true, List.all_eq_true]
  exact ⟨fun h d hd => h d (Tr.vl_mem.mpr hd), fun h d hd => h d (Tr.vl_mem.mp hd)⟩
theorem intsD_mem {ds : List D} {i : Int} : i ∈ intsD ds ↔ D.int i ∈ ds := by
  unfold intsD
  rw [List.mem_filterMap]
  constructor
  · rintro ⟨d, h1, h2⟩
    cases d <;> simp at h2
    subst h2; exact h1
  · intro h
    exact ⟨_, h, rfl⟩
theorem ss_ext {a b : List Int} (h : ∀ i, i ∈ a ↔ i ∈ b) : ssI a = ssI b := sorted_unique (ssI_sorted _) (ssI_sorted _) fun k => by rw [ssI_mem, ssI_mem]; exact h k
theorem ss_vl {t : Tr} : ssI (intsD t.vl) = ssI (intsD t.lv) := ss_ext fun i => by rw [intsD_mem, intsD_mem, Tr.vl_mem]
theorem it_t {Γ : Env} {i : Nat} {x : Str} {p : Pos} {L : List Slot} {xs : List D} (h : L[i]? = some (.val (.tup xs))) : denIt Γ (.e (.var i x p)) ⟨L, S⟩ = some (xs, ⟨L, S⟩) := by
  simp only [denIt, den, bnd, readVar, h, itD, ofO_s, ret]
theorem comp2 {Γ : Env} {elt : E} {it : Wk} {sc : Scope} {q p : Pos} {x y : Str} {i : Nat} {L : List Slot} {d1 d2 r1 r2 : D} (hb : L[i]? = some .no ∨ ∃ d, L[i]? = some (.val d)) (hit : denIt Γ it ⟨L, S⟩ = some ([d1, d2], ⟨L, S⟩))
    (h1 : den Γ elt ⟨L.set i (.val d1), S⟩ = some (r1, ⟨L.set i (.val d1), S⟩)) (h2 : den Γ elt ⟨L.set i (.val d2), S⟩ = some (r2, ⟨L.set i (.val d2), S⟩)) :
    den Γ (.comp elt (.nm i x p) it .nil sc [(y, i)] q) ⟨L, S⟩ = some (.lst [r1, r2], ⟨L, S⟩) := by
  have z := comp1p (elt := elt) (x := x) (p := p) (sc := sc) (y := y) (q := q) (fun v => match den Γ elt ⟨L.set i (.val v), S⟩ with | some (r, _) => r | none => .non) hb hit (by simp [sizeLine]) fun v hv => by
    rcases List.mem_cons.mp hv with rfl | hv
    · simp only [h1]
    · rw [List.mem_singleton] at hv; subst hv
      simp only [h2]
  rw [z]
  simp only [List.map_cons, List.map_nil, h1, h2]
theorem eqv_ints : ∀ {xs ys : List Int}, PyData.eqvAll (D.pys (xs.map D.int)) (D.pys (ys.map D.int)) = (xs == ys)
  | [], [] => by simp [D.pys, PyData.eqvAll]
  | [], _ :: _ => by simp [D.pys, PyData.eqvAll]
  | _ :: _, [] => by simp [D.pys, PyData.eqvAll]
  | x :: xs, y :: ys => by
    rw [List.map_cons, List.map_cons, D.pys, D.pys, PyData.eqvAll, eqv_ints, D.py, D.py, PyData.eqv]
    simp [List.cons_beq_cons]
theorem eq_ints {xs ys : List Int} : eqD (.lst (xs.map D.int)) (.lst (ys.map D.int)) = some (xs == ys) := by
  have hg : ∀ zs : List Int, gd 1 (.lst (zs.map D.int)) := fun zs => gd_lst fun d hd => by
    obtain ⟨i, _, rfl⟩ := List.mem_map.mp hd
    exact gd_int
  rw [eqD_gd (hg xs) (hg ys) (by omega) (by omega), D.py, D.py, PyData.eqv, eqv_ints]
end K44
end Dm

namespace Dm
open PySem L2
theorem for_findM {α : Type} {t : Tg} {body : M Fl} (I J : St → Prop) (g : α → D) (pb : α → Bool) (o : α → OD) : ∀ {items : List α}, (∀ v ∈ items, ∀ s, I s → ∃ s1 s2, setT t (g v) s = some ((), s1) ∧ ((pb v = true ∧ body s1 = some (.rt (o v), s2) ∧ J s2) ∨ (pb v = false ∧ body s1 = some (.nx, s2) ∧ I s2))) →
    ∀ {s : St}, I s → ∃ s', (match items.find? pb with | some v => forM t body (items.map g) s = some (.rt (o v), s') ∧ J s' | none => forM t body (items.map g) s = some (.nx, s') ∧ I s')
  | [], _, s, hs => ⟨s, rfl, hs⟩
  | v :: items, h, s, hs => by
    obtain ⟨s1, s2, e1, hh⟩ := h v List.mem_cons_self s hs
    rcases hh with ⟨hp, e2, j2⟩ | ⟨hp, e2, i2⟩
    · refine ⟨s2, ?_⟩
      rw [List.find?_cons, hp]
      refine ⟨?_, j2⟩
      rw [List.map_cons, forM]
      simp only [bnd, e1, turnEnd, e2, ret]
    · obtain ⟨s', e3⟩ := for_findM I J g pb o (fun y hy => h y (List.mem_cons_of_mem _ hy)) i2
      refine ⟨s', ?_⟩
      rw [List.find?_cons, hp]
      simp only []
      split at e3
      · refine ⟨?_, e3.2⟩
        rw [List.map_cons, forM]
        simp only [bnd, e1, turnEnd, e2, e3.1]
      · refine ⟨?_, e3.2⟩
        rw [List.map_cons, forM]
        simp only [bnd, e1, turnEnd, e2, e3.1]
namespace K44
variable {n m : Nat} {S : List OD} {f : Nat → Nat → Nat}
def I (k : Nat) : Tr := .lf (.int k)
def vals (n : Nat) : List D := (List.range n).map fun (k : Nat) => D.int k
theorem lrng_ok (h : n ≤ 7) : lrngD (.int n) = some (.lst (vals n)) := by
  have : lrngD (.int n) = some (.lst (rangeD 0 n)) := by
    unfold lrngD
    simp only []
    rw [if_pos ⟨by omega, by omega, by omega⟩]
  rw [this]
  simp [rangeD, vals]
theorem vals_len : (vals n).length = n := by simp [vals]
theorem vals_mem {d : D} (h : d ∈ vals n) : ∃ k : Nat, k < n ∧ d = .int k := by
  unfold vals at h
  obtain ⟨y, hy, rfl⟩ := List.mem_map.mp h
  exact ⟨y, List.mem_range.mp hy, rfl⟩
def k1 (x : D) : D := .tup [.tup [x, x], x]
def k2 (x y : D) : D := .tup [.tup [x, y], .tup [y, x]]
def k3 (x y z : D) : D := .tup [.tup [.tup [x, y], z], .tup [x, .tup [y, z]]]
theorem c16_0_ok {y : Slot} (h : n ≤ 7) : den (G m) c16_0 ⟨[.val (.int n), .val (.lst (vals n)), y, .no, .no, .no], S⟩ = some (.lst ((vals n).map k1), ⟨[.val (.int n), .val (.lst (vals n)), y, .no, .no, .no], S⟩) := by
  refine comp1p k1 (.inl rfl) (it_l rfl) (by rw [vals_len]; unfold sizeLine; omega) fun v hv => ?_
  simp [exec, execs, den, dens, denB, denAs, denKs, denIt, denIfs, denEO, denOE, denOEs, denF, bnd, ret, readVar, peek, peekO, peekL, opn_bv, opn_var, opn_con, opn_glo, opn_tup, opn_lst, opn_bin, opn_sub, opn_att, opn_bi1, opn_call, opn_callK, opn_cmp, opn_ss, opn_sl, cmpM, subM, subB, attM, unaM, setSlot, setSlots, setV, setT, setTs, doCall, mutF, tst, andThen, ofO_s, leafD_l, tr_b, env_call, env_fn, env_wf, env_glob, conD, rtM, itD_l, itD_t, sizeLine, k1]
theorem flat_len {α β : Type} {g : α → List β} {c : Nat} : ∀ {xs : List α}, (∀ x ∈ xs, (g x).length = c) → (xs.map g).flatten.length = xs.length * c
  | [], _ => by simp
  | x :: xs, h => by
    rw [List.map_cons, List.flatten_cons, List.length_append, h x List.mem_cons_self, flat_len fun y hy => h y (List.mem_cons_of_mem _ hy), List.length_cons, Nat.add_mul, Nat.one_mul, Nat.add_comm]
theorem run_pure {α : Type} {ids : List Nat} {t : Tg} {body : M (List α)} {items : List D} {L L0 : List Slot} (g : D → List α) (hw : wipeL L ids = L0)
    (h : ∀ v ∈ items, ∃ L', (bnd (setT t v) fun _ => body) ⟨L0, S⟩ = some (g v, ⟨L', S⟩) ∧ wipeL L' ids = L0) :
    ∃ L', runItems ids t body items ⟨L, S⟩ = some ((items.map g).flatten, ⟨L', S⟩) ∧ wipeL L' ids = L0 := by
  obtain ⟨yss, S', L', e1, e2, e3, e4⟩ := run_sp (ids := ids) (t := t) (body := body) (items := items) (fun S' => S' = S) (fun v ys => ys = g v) (L0 := L0) (fun v hv S2 hS => by
    subst hS
    obtain ⟨L', h1, h2⟩ := h v hv
    exact ⟨_, _, L', rfl, rfl, h1, h2⟩) (L := L) hw rfl
  subst e1
  exact ⟨L', by rw [e3, forall₂_map e2], e4⟩
theorem one_pure {Γ : Env} {i : Nat} {x : Str} {p : Pos} {me : M D} {items : List D} {L : List Slot} (g : D → D) (hi : i < L.length) (h : ∀ v ∈ items, me ⟨L.set i (.val v), S⟩ = some (g v, ⟨L.set i (.val v), S⟩)) :
    ∃ L', runItems [i] (.nm i x p) (bnd (denIfs Γ .nil) fun b => if b then denDC me [] else ret []) items ⟨L, S⟩ = some (items.map g, ⟨L', S⟩) ∧ wipeL L' [i] = wipeL L [i] := by
  obtain ⟨ys, S', L', e1, e2, e3, e4⟩ := run1 (Γ := Γ) (x := x) (p := p) (me := me) (items := items) (fun S' => S' = S) (fun v a => a = g v) hi (fun v hv S2 hS => by subst hS; exact ⟨_, _, rfl, rfl, h v hv⟩) rfl
  subst e1
  rw [forall₂_map e2] at e3
  exact ⟨L', e3, e4⟩
theorem two_pure {Γ : Env} {me : M D} {mi mj : M (List D)} {x y : Str} {px py : Pos} {a b c : Slot} {items : List D} (g : D → D → D)
    (hi : mi ⟨[a, b, c, .no, .no, .no], S⟩ = some (items, ⟨[a, b, c, .no, .no, .no], S⟩)) (hj : ∀ v, mj ⟨[a, b, c, .val v, .no, .no], S⟩ = some (items, ⟨[a, b, c, .val v, .no, .no], S⟩))
    (h : ∀ v ∈ items, ∀ w ∈ items, me ⟨[a, b, c, .val v, .val w, .no], S⟩ = some (g v w, ⟨[a, b, c, .val v, .val w, .no], S⟩)) (hz : items.length ≤ 7) :
    compM [3, 4] me [⟨.nm 3 x px, mi, denIfs Γ .nil, [3, 4]⟩, ⟨.nm 4 y py, mj, denIfs Γ .nil, [4]⟩] ⟨[a, b, c, .no, .no, .no], S⟩ = some (.lst (items.map fun v => items.map (g v)).flatten, ⟨[a, b, c, .no, .no, .no], S⟩) := by
  simp only [compM]
  rw [bnd_ok hi]
  obtain ⟨L', e1, e2⟩ := run_pure (S := S) (ids := [3, 4]) (L := [a, b, c, .no, .no, .no]) (L0 := [a, b, c, .no, .no, .no]) (items := items) (t := .nm 3 x px) (fun v => items.map (g v)) rfl (body := bnd (denIfs Γ .nil) fun b => if b then denDC me [⟨.nm 4 y py, mj, denIfs Γ .nil, [4]⟩] else ret []) fun v hv => by
    obtain ⟨L', q1, q2⟩ := one_pure (S := S) (Γ := Γ) (i := 4) (x := y) (p := py) (me := me) (items := items) (L := [a, b, c, .val v, .no, .no]) (g v) (by simp) (fun w hw => h v hv w hw)
    refine ⟨L', ?_, ?_⟩
    · have hs : setT (.nm 3 x px) v ⟨[a, b, c, .no, .no, .no], S⟩ = some ((), ⟨[a, b, c, .val v, .no, .no], S⟩) := rfl
      rw [bnd_ok hs]
      simp only [denIfs, bnd_ok (show ret true _ = some (true, _) from rfl), if_true, denDC]
      rw [bnd_ok (hj v)]
      exact q1
    · have : wipeL L' [3, 4] = (wipeL L' [4]).set 3 .no := rfl
      rw [this, q2]
      rfl
  exact inScope_sp (ids := [3, 4]) e1 (by rw [e2]; rfl) rfl (by rw [flat_len (c := items.length) fun x _ => by simp]; unfold sizeLine; have := Nat.mul_le_mul hz hz; omega)
theorem three_pure {Γ : Env} {me : M D} {mi mj mk : M (List D)} {x y z : Str} {px py pz : Pos} {a b c : Slot} {items : List D} (g : D → D → D → D)
    (hi : mi ⟨[a, b, c, .no, .no, .no], S⟩ = some (items, ⟨[a, b, c, .no, .no, .no], S⟩)) (hj : ∀ v, mj ⟨[a, b, c, .val v, .no, .no], S⟩ = some (items, ⟨[a, b, c, .val v, .no, .no], S⟩))
    (hk : ∀ v w, mk ⟨[a, b, c, .val v, .val w, .no], S⟩ = some (items, ⟨[a, b, c, .val v, .val w, .no], S⟩))
    (h : ∀ v ∈ items, ∀ w ∈ items, ∀ u ∈ items, me ⟨[a, b, c, .val v, .val w, .val u], S⟩ = some (g v w u, ⟨[a, b, c, .val v, .val w, .val u], S⟩)) (hz : items.length ≤ 7) :
    compM [3, 4, 5] me [⟨.nm 3 x px, mi, denIfs Γ .nil, [3, 4, 5]⟩, ⟨.nm 4 y py, mj, denIfs Γ .nil, [4, 5]⟩, ⟨.nm 5 z pz, mk, denIfs Γ .nil, [5]⟩] ⟨[a, b, c, .no, .no, .no], S⟩ = some (.lst (items.map fun v => (items.map fun w => items.map (g v w)).flatten).flatten, ⟨[a, b, c, .no, .no, .no], S⟩) := by
  simp only [compM]
  rw [bnd_ok hi]
  obtain ⟨L', e1, e2⟩ := run_pure (S := S) (ids := [3, 4, 5]) (L := [a, b, c, .no, .no, .no]) (L0 := [a, b, c, .no, .no, .no]) (items := items) (t := .nm 3 x px) (fun v => (items.map fun w => items.map (g v w)).flatten) rfl (body := bnd (denIfs Γ .nil) fun b => if b then denDC me [⟨.nm 4 y py, mj, denIfs Γ .nil, [4, 5]⟩, ⟨.nm 5 z pz, mk, denIfs Γ .nil, [5]⟩] else ret []) fun v hv => by
    obtain ⟨L', q1, q2⟩ := run_pure (S := S) (ids := [4, 5]) (L := [a, b, c, .val v, .no, .no]) (L0 := [a, b, c, .val v, .no, .no]) (items := items) (t := .nm 4 y py) (fun w => items.map (g v w)) rfl (body := bnd (denIfs Γ .nil) fun b => if b then denDC me [⟨.nm 5 z pz, mk, denIfs Γ .nil, [5]⟩] else ret []) fun w hw => by
      obtain ⟨L', q1, q2⟩ := one_pure (S := S) (Γ := Γ) (i := 5) (x := z) (p := pz) (me := me) (items := items) (L := [a, b, c, .val v, .val w, .no]) (g v w) (by simp) (fun u hu => h v hv w hw u hu)
      refine ⟨L', ?_, ?_⟩
      · have hs : setT (.nm 4 y py) w ⟨[a, b, c, .val v, .no, .no], S⟩ = some ((), ⟨[a, b, c, .val v, .val w, .no], S⟩) := rfl
        rw [bnd_ok hs]
        simp only [denIfs, bnd_ok (show ret true _ = some (true, _) from rfl), if_true, denDC]
        rw [bnd_ok (hk v w)]
        exact q1
      · have : wipeL L' [4, 5] = (wipeL L' [5]).set 4 .no := rfl
        rw [this, q2]
        rfl
    refine ⟨L', ?_, ?_⟩
    · have hs : setT (.nm 3 x px) v ⟨[a, b, c, .no, .no, .no], S⟩ = some ((), ⟨[a, b, c, .val v, .no, .no], S⟩) := rfl
      rw [bnd_ok hs]
      simp only [denIfs, bnd_ok (show ret true _ = some (true, _) from rfl), if_true]
      rw [denDC, bnd_ok (hj v)]
      exact q1
    · have : wipeL L' [3, 4, 5] = (wipeL L' [4, 5]).set 3 .no := rfl
      rw [this, q2]
      rfl
  refine inScope_sp (ids := [3, 4, 5]) e1 (by rw [e2]; rfl) rfl ?_
  rw [flat_len (c := items.length * items.length) fun x _ => by rw [flat_len (c := items.length) fun y _ => by simp]]
  have h1 := Nat.mul_le_mul hz hz
  have h2 := Nat.mul_le_mul hz h1
  unfold sizeLine
  omega
theorem c16_1_ok {y : Slot} (h : n ≤ 7) : den (G m) c16_1 ⟨[.val (.int n), .val (.lst (vals n)), y, .no, .no, .no], S⟩ = some (.lst ((vals n).map fun a => (vals n).map (k2 a)).flatten, ⟨[.val (.int n), .val (.lst (vals n)), y, .no, .no, .no], S⟩) := by
  unfold c16_1
  rw [den]
  exact two_pure (Γ := G m) k2 (it_l rfl) (fun v => it_l rfl) (fun v hv w hw => by simp [exec, execs, den, dens, denB, denAs, denKs, denIt, denIfs, denEO, denOE, denOEs, denF, bnd, ret, readVar, peek, peekO, peekL, opn_bv, opn_var, opn_con, opn_glo, opn_tup, opn_lst, opn_bin, opn_sub, opn_att, opn_bi1, opn_call, opn_callK, opn_cmp, opn_ss, opn_sl, cmpM, subM, subB, attM, unaM, setSlot, setSlots, setV, setT, setTs, doCall, mutF, tst, andThen, ofO_s, leafD_l, tr_b, env_call, env_fn, env_wf, env_glob, conD, rtM, itD_l, itD_t, sizeLine, k2]) (by rw [vals_len]; exact h)
theorem c16_2_ok {y : Slot} (h : n ≤ 7) : den (G m) c16_2 ⟨[.val (.int n), .val (.lst (vals n)), y, .no, .no, .no], S⟩ = some (.lst ((vals n).map fun a => ((vals n).map fun b => (vals n).map (k3 a b)).flatten).flatten, ⟨[.val (.int n), .val (.lst (vals n)), y, .no, .no, .no], S⟩) := by
  unfold c16_2
  rw [den]
  exact three_pure (Γ := G m) k3 (it_l rfl) (fun v => it_l rfl) (fun v w => it_l rfl) (fun v hv w hw u hu => by simp [exec, execs, den, dens, denB, denAs, denKs, denIt, denIfs, denEO, denOE, denOEs, denF, bnd, ret, readVar, peek, peekO, peekL, opn_bv, opn_var, opn_con, opn_glo, opn_tup, opn_lst, opn_bin, opn_sub, opn_att, opn_bi1, opn_call, opn_callK, opn_cmp, opn_ss, opn_sl, cmpM, subM, subB, attM, unaM, setSlot, setSlots, setV, setT, setTs, doCall, mutF, tst, andThen, ofO_s, leafD_l, tr_b, env_call, env_fn, env_wf, env_glob, conD, rtM, itD_l, itD_t, sizeLine, k3]) (by rw [vals_len]; exact h)
def known (n : Nat) : List (Tr × Tr) := ((List.range n).map fun x => (.nd (I x) (I x), I x)) ++ ((List.range n).map fun x => (List.range n).map fun y => (Tr.nd (I x) (I y), Tr.nd (I y) (I x))).flatten ++
  ((List.range n).map fun x => ((List.range n).map fun y => (List.range n).map fun z => (Tr.nd (.nd (I x) (I y)) (I z), Tr.nd (I x) (.nd (I y) (I z)))).flatten).flatten
def pairD (p : Tr × Tr) : D := .tup [p.1.d, p.2.d]
theorem sp16 (h : n ≤ 7) (hm : 1 ≤ m) : cl m 16 [.val (.int n)] S = some (.leaf (.lst ((known n).map pairD)), S) := by
  have e0 := lrng_ok h
  have l0 : ((vals n).map k1).length = n := by rw [List.length_map, vals_len]
  have l1 : ((vals n).map fun a => (vals n).map (k2 a)).flatten.length = n * n := by rw [flat_len (c := n) fun x _ => by simp [vals], vals_len]
  have l2 : ((vals n).map fun a => ((vals n).map fun b => (vals n).map (k3 a b)).flatten).flatten.length = n * (n * n) := by
    rw [flat_len (c := n * n) fun x _ => by rw [flat_len (c := n) fun y _ => by simp [vals], vals_len], vals_len]
  have h1 := Nat.mul_le_mul h h
  have h2 := Nat.mul_le_mul h h1
  have g1 : exec (G (m - 1)) t16_0 ⟨[.val (.int n), .no, .no, .no, .no, .no], S⟩ = some (.nx, ⟨[.val (.int n), .val (.lst (vals n)), .no, .no, .no, .no], S⟩) := by
    exact x_setv (v_lrng (v_var rfl) e0) (by simp)
  have g2 : exec (G (m - 1)) t16_1 ⟨[.val (.int n), .val (.lst (vals n)), .no, .no, .no, .no], S⟩ = some (.nx, ⟨[.val (.int n), .val (.lst (vals n)), .val (.lst ((vals n).map k1 ++ ((vals n).map fun a => (vals n).map (k2 a)).flatten)), .no, .no, .no], S⟩) := by
    have a1 := bApp (xs := (vals n).map k1) (ys := ((vals n).map fun a => (vals n).map (k2 a)).flatten) (by rw [l0, l1]; unfold sizeLine; omega)
    exact x_setv (v_bin (c16_0_ok h) (c16_1_ok h) a1) (by simp)
  have hk : (vals n).map k1 ++ ((vals n).map fun a => (vals n).map (k2 a)).flatten ++ ((vals n).map fun a => ((vals n).map fun b => (vals n).map (k3 a b)).flatten).flatten = (known n).map pairD := by
    simp [known, vals, pairD, k1, k2, k3, Tr.d, I, List.map_flatten, Function.comp_def]
  refine call_ok (d := d16) rfl hm rfl (L' := [.val (.int n), .val (.lst (vals n)), .val (.lst ((vals n).map k1 ++ ((vals n).map fun a => (vals n).map (k2 a)).flatten)), .no, .no, .no]) ?_
  show execs _ (.cons t16_0 (.cons t16_1 (.cons t16_2 .nil))) ⟨[.val (.int n), .no, .no, .no, .no, .no], S⟩ = _
  rw [r_nx g1, r_nx g2]
  refine r_rt ?_
  have a2 := bApp (xs := (vals n).map k1 ++ ((vals n).map fun a => (vals n).map (k2 a)).flatten) (ys := ((vals n).map fun a => ((vals n).map fun b => (vals n).map (k3 a b)).flatten).flatten) (by rw [List.length_append, l0, l1, l2]; unfold sizeLine; omega)
  rw [hk] at a2
  exact x_ret (v_bin (v_var rfl) (c16_2_ok h) a2)
end K44
end Dm

namespace Dm
open PySem L2
namespace K44
variable {n m : Nat} {S : List OD} {f : Nat → Nat → Nat}
theorem known_mem {p : Tr × Tr} : p ∈ known n ↔ (∃ x, x < n ∧ p = (.nd (I x) (I x), I x)) ∨ (∃ x y, x < n ∧ y < n ∧ p = (.nd (I x) (I y), .nd (I y) (I x))) ∨ ∃ x y z, x < n ∧ y < n ∧ z < n ∧ p = (.nd (.nd (I x) (I y)) (I z), .nd (I x) (.nd (I y) (I z))) := by
  unfold known
  simp only [List.mem_append, List.mem_map, List.mem_flatten, List.mem_range, or_assoc]
  constructor
  · rintro (⟨x, hx, rfl⟩ | ⟨l, ⟨x, hx, rfl⟩, hl⟩ | ⟨l, ⟨x, hx, rfl⟩, hl⟩)
    · exact .inl ⟨x, hx, rfl⟩
    · obtain ⟨y, hy, rfl⟩ := List.mem_map.mp hl
      exact .inr (.inl ⟨x, y, hx, List.mem_range.mp hy, rfl⟩)
    · obtain ⟨l', h1, h2⟩ := List.mem_flatten.mp hl
      obtain ⟨y, hy, rfl⟩ := List.mem_map.mp h1
      obtain ⟨z, hz, rfl⟩ := List.mem_map.mp h2
      exact .inr (.inr ⟨x, y, z, hx, List.mem_range.mp hy, List.mem_range.mp hz, rfl⟩)
  · rintro (⟨x, hx, rfl⟩ | ⟨x, y, hx, hy, rfl⟩ | ⟨x, y, z, hx, hy, hz, rfl⟩)
    · exact .inl ⟨x, hx, rfl⟩
    · exact .inr (.inl ⟨_, ⟨x, hx, rfl⟩, List.mem_map.mpr ⟨y, List.mem_range.mpr hy, rfl⟩⟩)
    · exact .inr (.inr ⟨_, ⟨x, hx, rfl⟩, List.mem_flatten.mpr ⟨_, List.mem_map.mpr ⟨y, List.mem_range.mpr hy, rfl⟩, List.mem_map.mpr ⟨z, List.mem_range.mpr hz, rfl⟩⟩⟩)
theorem I_ml {x : Nat} (h : x < n) : (I x).ml n = true := by
  simp [I, Tr.ml, Tr.lv, isV]; omega
theorem known_ok {p : Tr × Tr} (h : p ∈ known n) : p.1.ml n = true ∧ p.2.ml n = true ∧ p.1.dep ≤ 2 ∧ p.2.dep ≤ 2 ∧ p.1.cnt ≤ 3 ∧ p.2.cnt ≤ 3 ∧ ssI (intsD p.1.lv) = ssI (intsD p.2.lv) := by
  rcases known_mem.mp h with ⟨x, hx, rfl⟩ | ⟨x, y, hx, hy, rfl⟩ | ⟨x, y, z, hx, hy, hz, rfl⟩
  · refine ⟨?_, I_ml hx, by simp [I, Tr.dep], by simp [I, Tr.dep], by simp [I, Tr.cnt], by simp [I, Tr.cnt], ss_ext fun i => ?_⟩
    · simp only [Tr.ml_nd, I_ml hx]; rfl
    · simp [I, Tr.lv, intsD_mem]
  · refine ⟨?_, ?_, by simp [I, Tr.dep], by simp [I, Tr.dep], by simp [I, Tr.cnt], by simp [I, Tr.cnt], ss_ext fun i => ?_⟩
    · simp only [Tr.ml_nd, I_ml hx, I_ml hy]; rfl
    · simp only [Tr.ml_nd, I_ml hx, I_ml hy]; rfl
    · simp [I, Tr.lv, intsD_mem]; exact Or.comm
  · refine ⟨?_, ?_, by simp [I, Tr.dep], by simp [I, Tr.dep], by simp [I, Tr.cnt], by simp [I, Tr.cnt], ss_ext fun i => ?_⟩
    · simp only [Tr.ml_nd, I_ml hx, I_ml hy, I_ml hz]; rfl
    · simp only [Tr.ml_nd, I_ml hx, I_ml hy, I_ml hz]; rfl
    · simp [I, Tr.lv, intsD_mem]
def pt (n : Nat) (f : Nat → Nat → Nat) : Option (Tr × Tr) := (known n).find? fun p => !(p.1.res f == p.2.res f)
def ptD (n : Nat) (f : Nat → Nat → Nat) : D := match pt n f with
  | some p => pairD p
  | none => .non
theorem v_lenO {Γ : Env} {p q : Pos} {e : E} {s s1 : St} (h : den Γ e s = some (tabD n f, s1)) (hn : n ≤ 7) (hc : Γ.call 6 [.val (tabD n f)] s1.S = some (.leaf (.int n), s1.S)) : den Γ (.lenO 0 6 p e q) s = some (.int n, s1) := by
  rw [den, bnd_ok h]
  unfold tabD at hc ⊢
  unfold lenM
  simp only [if_true]
  rw [bnd_ok (show doCall Γ 6 _ s1 = some (.leaf (.int n), s1) by unfold doCall; rw [hc])]
  simp only []
  rw [if_pos (by omega)]
  rfl
theorem ne_int {a b : Nat} : cmpD .NotEq (.int a) (.int b) = some (.bl (!(a == b))) := by
  simp only [cmpD, eq_int, Option.map_some, int_beq]
theorem sp17 (hT : Tb n f) (hm : 6 ≤ m) : cl m 17 [.val (tabD n f)] S = some (.leaf (ptD n f), S) := by
  have h7 := hT.most
  have e16 := sp16 (m := m - 1) (n := n) (S := S) h7 (by omega)
  have e6 := sp6 (m := m - 1) (n := n) (f := f) (S := S) (by omega)
  have hit : denIt (G (m - 1)) (.e (.call 16 "known_pairs" (P 78 22 33) (.val (.lenO 0 6 (P 78 34 37) (.var 0 "table" (P 78 38 43)) (P 78 34 44)) .nil) (P 78 22 45))) ⟨[.val (tabD n f), .no, .no], S⟩ = some ((known n).map pairD, ⟨[.val (tabD n f), .no, .no], S⟩) := by
    rw [denIt, bnd_ok (v_call (a_val (v_lenO (v_var rfl) h7 e6) a_nil) e16)]
    rfl
  obtain ⟨s', hf⟩ := for_findM (t := .tp (.cons (.nm 1 "one" (P 78 8 11)) (.cons (.nm 2 "other" (P 78 13 18)) .nil)) 0 (P 78 8 18)) (body := execs (G (m - 1)) s17_1) (fun s => ∃ y1 y2, s = ⟨[.val (tabD n f), y1, y2], S⟩) (fun s => s.S = S) pairD (fun p => !(p.1.res f == p.2.res f)) (fun p => .leaf (pairD p)) (items := known n)
    (fun p hp s hs => by
      obtain ⟨y1, y2, rfl⟩ := hs
      obtain ⟨a, b⟩ := p
      obtain ⟨q1, q2, q3, q4, _⟩ := known_ok hp
      have ra := sp14 (m := m - 1) (S := S) hT q1 (by simp only at q3 ⊢; omega)
      have rb := sp14 (m := m - 1) (S := S) hT q2 (by simp only at q4 ⊢; omega)
      refine ⟨⟨[.val (tabD n f), .val a.d, .val b.d], S⟩, ⟨[.val (tabD n f), .val a.d, .val b.d], S⟩, by simp [setT, setTs, setV, pairD, bnd, ret], ?_⟩
      have ec : den (G (m - 1)) (.cmp (.call 14 "result_of" (P 79 11 20) (.share 0 "table" (P 79 21 26) (.share 1 "one" (P 79 28 31) .nil)) (P 79 11 32)) .NotEq (.call 14 "result_of" (P 79 36 45) (.share 0 "table" (P 79 46 51) (.share 2 "other" (P 79 53 58) .nil)) (P 79 36 59)) (P 79 11 59)) ⟨[.val (tabD n f), .val a.d, .val b.d], S⟩ = some (.bl (!(a.res f == b.res f)), ⟨[.val (tabD n f), .val a.d, .val b.d], S⟩) :=
        v_cmp (fun _ _ _ z => by cases z) (fun _ _ _ z => by cases z) (v_call (a_shv rfl (a_shv rfl a_nil)) ra) (v_call (a_shv rfl (a_shv rfl a_nil)) rb) ne_int
      cases hb : (!(a.res f == b.res f)) with
      | true =>
        refine .inl ⟨rfl, ?_, rfl⟩
        rw [hb] at ec
        exact r_rt (x_iff_t ec (r_rt (x_ret (by simp [exec, execs, den, dens, denB, denAs, denKs, denIt, denIfs, denEO, denOE, denOEs, denF, bnd, ret, readVar, peek, peekO, peekL, opn_bv, opn_var, opn_con, opn_glo, opn_tup, opn_lst, opn_bin, opn_sub, opn_att, opn_bi1, opn_call, opn_callK, opn_cmp, opn_ss, opn_sl, cmpM, subM, subB, attM, unaM, setSlot, setSlots, setV, setT, setTs, doCall, mutF, tst, andThen, ofO_s, leafD_l, tr_b, env_call, env_fn, env_wf, env_glob, conD, rtM, itD_l, itD_t, sizeLine, pairD]))))
      | false =>
        refine .inr ⟨rfl, ?_, _, _, rfl⟩
        rw [hb] at ec
        exact (r_nx (x_skip ec)).trans rfl) (s := ⟨[.val (tabD n f), .no, .no], S⟩) ⟨_, _, rfl⟩
  refine call_okE (d := d17) rfl (by omega) rfl ?_
  show ∃ L', execs _ (.cons t17_0 (.cons t17_1 .nil)) ⟨[.val (tabD n f), .no, .no], S⟩ = some (.rt (.leaf (ptD n f)), ⟨L', S⟩)
  have e0 : exec (G (m - 1)) t17_0 ⟨[.val (tabD n f), .no, .no], S⟩ = forM (.tp (.cons (.nm 1 "one" (P 78 8 11)) (.cons (.nm 2 "other" (P 78 13 18)) .nil)) 0 (P 78 8 18)) (execs (G (m - 1)) s17_1) ((known n).map pairD) ⟨[.val (tabD n f), .no, .no], S⟩ := by
    rw [t17_0, exec, bnd_ok hit]
  unfold ptD pt
  cases hq : (known n).find? fun p => !(p.1.res f == p.2.res f) with
  | some p =>
    simp only [hq] at hf
    obtain ⟨L, S2⟩ := s'
    obtain ⟨h1, h2⟩ := hf
    simp only at h2
    subst h2
    exact ⟨L, r_rt (e0.trans h1)⟩
  | none =>
    simp only [hq] at hf
    obtain ⟨h1, y1, y2, rfl⟩ := hf
    refine ⟨[.val (tabD n f), y1, y2], ?_⟩
    rw [r_nx (e0.trans h1)]
    exact r_rt (x_ret (v_con rfl))
def mB (n : Nat) (f : Nat → Nat → Nat) : Bool := (pt n f).isNone
theorem is_non : cmpD .Is (ptD n f) .non = some (.bl (mB n f)) := by
  unfold ptD mB
  cases pt n f <;> rfl
theorem sp18 (hT : Tb n f) (hm : 7 ≤ m) : cl m 18 [.val (tabD n f)] S = some (.leaf (.bl (mB n f)), S) := by
  refine call_ok (d := d18) rfl (by omega) rfl (L' := [.val (tabD n f)]) ?_
  exact r_rt (x_ret (v_cmp (fun _ _ _ z => by cases z) (fun _ _ _ z => by cases z) (v_call (a_shv rfl a_nil) (sp17 (m := m - 1) hT (by omega))) (v_con rfl) is_non))
/-! ### the law's own -/
theorem rx (hT : Tb n f) {x : Nat} (h : x < n) : ixD (rowsD n f) (.int x) = some (.lst (rowL n (f x))) := ix_l (rowsL_at h)
theorem ry {g : Nat → Nat} {y : Nat} (h : y < n) : ixD (.lst (rowL n g)) (.int y) = some (.int (g y)) := ix_l (rowL_at h)
end K44
end Dm

namespace Dm
open PySem L2
theorem sl_to {xs : List D} {k : Nat} (h : k ≤ xs.length) : slD (.lst xs) none (some (k : Int)) = some (.lst (xs.take k)) := by
  simp only [slD, cutD, HT.sIx_none, HT.sIx_nat, List.drop_zero, Nat.sub_zero, Nat.min_eq_left h]
theorem sl_from {xs : List D} {k : Nat} (h : k ≤ xs.length) : slD (.lst xs) (some (k : Int)) none = some (.lst (xs.drop k)) := by
  simp only [slD, cutD, HT.sIx_none, HT.sIx_nat, Nat.min_eq_left h]
  rw [List.take_of_length_le (by rw [List.length_drop]; omega)]
section
variable {Γ : Env}
theorem v_slU {a e : E} {p q : Pos} {s s1 s2 : St} {x d : D} {k : Int} (ha : den Γ a s = some (x, s1)) (he : den Γ e s1 = some (.int k, s2)) (h : slD x none (some k) = some d) : den Γ (.sl a .no (.yes e) p q) s = some (d, s2) := by
  rw [den, bnd_ok ha, denEO, denEO, bnd_ok (show ret none s1 = some (none, s1) from rfl), mOpt, bnd_ok (bnd_ok he), h]; rfl
theorem v_slD {a e : E} {p q : Pos} {s s1 s2 : St} {x d : D} {k : Int} (ha : den Γ a s = some (x, s1)) (he : den Γ e s1 = some (.int k, s2)) (h : slD x (some k) none = some d) : den Γ (.sl a (.yes e) .no p q) s = some (d, s2) := by
  rw [den, bnd_ok ha, denEO, denEO, mOpt, bnd_ok (bnd_ok he)]
  rw [bnd_ok (show ret none s2 = some (none, s2) from rfl), h]; rfl
theorem tst_ok {e : E} {s s1 : St} {b : Bool} (h : den Γ e s = some (.bl b, s1)) : tst Γ e s = some (b, s1) := by
  unfold tst
  rw [bnd_ok h]; rfl
theorem v_tup2 {a b : E} {k : Nat} {p : Pos} {s s1 s2 : St} {x y : D} (ha : den Γ a s = some (x, s1)) (hb : den Γ b s1 = some (y, s2)) : den Γ (.tup (.cons a (.cons b .nil)) k p) s = some (.tup [x, y], s2) := by
  simp only [den, dens, bnd, ha, hb, ret, List.length_cons, List.length_nil, sizeLine]
  rfl
theorem v_lst1 {a : E} {p : Pos} {s s1 : St} {x : D} (ha : den Γ a s = some (x, s1)) : den Γ (.lst (.cons a .nil) p) s = some (.lst [x], s1) := by
  simp only [den, dens, bnd, ha, ret, List.length_cons, List.length_nil, sizeLine]
  rfl
theorem v_lst2 {a b : E} {p : Pos} {s s1 s2 : St} {x y : D} (ha : den Γ a s = some (x, s1)) (hb : den Γ b s1 = some (y, s2)) : den Γ (.lst (.cons a (.cons b .nil)) p) s = some (.lst [x, y], s2) := by
  simp only [den, dens, bnd, ha, hb, ret, List.length_cons, List.length_nil, sizeLine]
  rfl
end
namespace K44
variable {n m : Nat} {S : List OD} {f : Nat → Nat → Nat}
theorem Tr.dep_cnt : ∀ t : Tr, t.dep + 1 ≤ t.cnt
  | .lf _ => Nat.le_refl _
  | .nd a b => by
    have h1 := Tr.dep_cnt a
    have h2 := Tr.dep_cnt b
    rw [Tr.dep, Tr.cnt]
    omega
def Is' (n : Nat) (ds : List D) : Prop := ∀ d ∈ ds, ∃ k : Nat, k < n ∧ d = .int k
theorem Is'.gd {ds : List D} (h : Is' n ds) {k : Nat} : ∀ d ∈ ds, Dm.gd k d := fun d hd => by
  obtain ⟨k, _, rfl⟩ := h d hd
  exact gd_int
theorem rng_ok {Γ : Env} {e : E} {p q : Pos} {s s1 : St} {k : Nat} (h : den Γ e s = some (.int k, s1)) (hk : k < 1000) : denIt Γ (.rng e p q) s = some (vals k, s1) := by
  rw [denIt, bnd_ok h]
  simp only []
  rw [if_pos (by omega)]
  simp [ret, rangeD, vals]
end K44
end Dm

namespace Dm
open PySem L2
theorem for_inv2 {t : Tg} {body : M Fl} (I J : St → Prop) (hJ : ∀ s, J s → I s) {items : List D} (h : ∀ v ∈ items, ∀ s, I s → ∃ s1 s2, setT t v s = some ((), s1) ∧ body s1 = some (.nx, s2) ∧ J s2) (h0 : items ≠ []) {s : St} (hs : I s) : ∃ s', forM t body items s = some (.nx, s') ∧ J s' := by
  match items, h0 with
  | v :: items, _ =>
    obtain ⟨s1, s2, e1, e2, j2⟩ := h v List.mem_cons_self s hs
    obtain ⟨s', e3, j3⟩ := for_inv (t := t) (body := body) (items := items) J (fun y hy s hs => by
      obtain ⟨s1, s2, q1, q2, q3⟩ := h y (List.mem_cons_of_mem _ hy) s (hJ s hs)
      exact ⟨s1, s2, q1, q2, q3⟩) j2
    refine ⟨s', ?_, j3⟩
    rw [forM]
    simp only [bnd, e1, turnEnd, e2, e3]
theorem den_and {Γ : Env} {e e2 : E} {p : Pos} : den Γ (.bop .And e (.cons e2 .nil) p) = bnd (den Γ e) fun x => bnd (ofO x.tr) fun b => if b then den Γ e2 else ret x := by
  rw [den, denB]
  rfl
namespace K44
variable {n m : Nat} {S : List OD} {f : Nat → Nat → Nat}
/-! ### lots of spots -/
def lotD (l : List Int) : D := .lst (l.map D.int)
def un (a b : List Int) : List Int := ssI (a ++ b)
structure Lot (l : List Int) : Prop where
  ss : ssI l = l
  in' : ∀ i ∈ l, 0 ≤ i ∧ i < 4
theorem sorted_len : ∀ {l : List Int} {lo hi : Int}, l.Pairwise (· < ·) → (∀ i ∈ l, lo ≤ i ∧ i < hi) → (l.length : Int) ≤ max 0 (hi - lo)
  | [], lo, hi, _, _ => by simp; omega
  | x :: l, lo, hi, h1, h2 => by
    rw [List.pairwise_cons] at h1
    have h3 := h2 x List.mem_cons_self
    have := sorted_len (lo := x + 1) (hi := hi) h1.2 fun i hi' => ⟨by have := h1.1 i hi'; omega, (h2 i (List.mem_cons_of_mem _ hi')).2⟩
    rw [List.length_cons]
    omega
theorem Lot.len {l : List Int} (h : Lot l) : l.length ≤ 4 := by
  have := sorted_len (l := l) (lo := 0) (hi := 4) (by rw [← h.ss]; exact ssI_sorted _) h.in'
  omega
theorem un_lot {a b : List Int} (ha : ∀ i ∈ a, 0 ≤ i ∧ i < 4) (hb : ∀ i ∈ b, 0 ≤ i ∧ i < 4) : Lot (un a b) :=
  ⟨ss_ext fun i => by rw [un, ssI_mem], fun i hi => by
    rw [un, ssI_mem, List.mem_append] at hi
    exact hi.elim (ha i) (hb i)⟩
theorem un_mem {a b : List Int} {i : Int} : i ∈ un a b ↔ i ∈ a ∨ i ∈ b := by rw [un, ssI_mem, List.mem_append]
theorem un_eq {a b c d : List Int} (h : ∀ i, (i ∈ a ∨ i ∈ b) ↔ (i ∈ c ∨ i ∈ d)) : un a b = un c d := ss_ext fun i => by rw [List.mem_append, List.mem_append]; exact h i
theorem un_self {a : List Int} (h : Lot a) : un a a = a := by
  rw [← h.ss]
  exact ss_ext fun i => by rw [List.mem_append, ssI_mem, or_self]
theorem un_abs {a c : List Int} : un a (un c a) = un c a := by
  unfold un
  exact ss_ext fun i => by simp only [List.mem_append, ssI_mem]; exact ⟨fun h => h.elim .inr id, .inr⟩
structure Lots (ls : List (List Int)) : Prop where
  lot : ∀ a ∈ ls, Lot a
  cls : ∀ a ∈ ls, ∀ b ∈ ls, un a b ∈ ls
  nd : ls.Nodup
theorem lots_grow {ls ls' : List (List Int)} {fr : List Int} (h : Lots ls) (hf : Lot fr) (hm : ∀ a, a ∈ ls' ↔ a ∈ ls ∨ a = fr ∨ ∃ c ∈ ls, a = un c fr) (hnd : ls'.Nodup) : Lots ls' := by
  have com : ∀ {a b : List Int}, un a b = un b a := un_eq fun i => Or.comm
  have key : ∀ {a c : List Int}, a ∈ ls → c ∈ ls → un a (un c fr) = un (un a c) fr ∧ un (un a fr) (un c fr) = un (un a c) fr := by
    intro a c _ _
    constructor
    · exact un_eq fun i => by rw [un_mem, un_mem]; exact or_assoc.symm
    · exact un_eq fun i => by
        rw [un_mem, un_mem, un_mem]
        constructor
        · rintro ((h | h) | (h | h))
          · exact .inl (.inl h)
          · exact .inr h
          · exact .inl (.inr h)
          · exact .inr h
        · rintro ((h | h) | h)
          · exact .inl (.inl h)
          · exact .inr (.inl h)
          · exact .inr (.inr h)
  refine ⟨fun a ha => ?_, fun a ha b hb => ?_, hnd⟩
  · rcases (hm a).mp ha with h1 | rfl | ⟨c, hc, rfl⟩
    · exact h.lot a h1
    · exact hf
    · exact un_lot (h.lot c hc).in' hf.in'
  · rw [hm]
    rcases (hm a).mp ha with h1 | rfl | ⟨c, hc, rfl⟩ <;> rcases (hm b).mp hb with h2 | rfl | ⟨d, hd, rfl⟩
    · exact .inl (h.cls a h1 b h2)
    · exact .inr (.inr ⟨a, h1, rfl⟩)
    · exact .inr (.inr ⟨_, h.cls a h1 d hd, (key h1 hd).1⟩)
    · exact .inr (.inr ⟨b, h2, com⟩)
    · exact .inr (.inl (un_self hf))
    · exact .inr (.inr ⟨d, hd, un_abs⟩)
    · exact .inr (.inr ⟨_, h.cls b h2 c hc, by rw [com, (key h2 hc).1]⟩)
    · exact .inr (.inr ⟨c, hc, by rw [com, un_abs]⟩)
    · exact .inr (.inr ⟨_, h.cls c hc d hd, (key hc hd).2⟩)
theorem ssD_ok {a : List Int} (h : a.length < 64) : ssD (.lst (a.map D.int)) = some (lotD (ssI a)) := by
  have : ∀ {a : List Int}, allI (a.map D.int) = some a := by
    intro a
    induction a with
    | nil => rfl
    | cons x a ih => rw [List.map_cons, allI, ih]; rfl
  unfold ssD
  simp only [this]
  rw [if_pos h]
  rfl
theorem gd_lot {l : List Int} : gd 1 (lotD l) := gd_lst fun d hd => by
  obtain ⟨i, _, rfl⟩ := List.mem_map.mp hd
  exact gd_int
theorem gd_lots {ls : List (List Int)} : ∀ d ∈ ls.map lotD, gd 1 d := fun d hd => by
  obtain ⟨l, _, rfl⟩ := List.mem_map.mp hd
  exact gd_lot
theorem eqv_lot {a b : List Int} : PyData.eqv (lotD a).py (lotD b).py = (a == b) := by
  unfold lotD
  rw [D.py, D.py, PyData.eqv, eqv_ints]
theorem in_lots {ls : List (List Int)} {a : List Int} : inD (lotD a) (ls.map lotD) = some (decide (a ∈ ls)) := by
  unfold inD
  rw [gd_lot.shaped (by omega), (gd_lst gd_lots).shaped (by omega)]
  simp only [Bool.and_self, if_true]
  congr 1
  rw [Bool.eq_iff_iff, List.any_eq_true, decide_eq_true_eq]
  constructor
  · rintro ⟨d, hd, e⟩
    obtain ⟨l, hl, rfl⟩ := List.mem_map.mp hd
    rw [eqv_lot, beq_iff_eq] at e
    subst e; exact hl
  · intro h
    exact ⟨_, List.mem_map.mpr ⟨a, h, rfl⟩, by rw [eqv_lot, beq_iff_eq]⟩
def sel (fd : List (List Int)) : List (List Int) → List (List Int) → List (List Int)
  | _, [] => []
  | pre, a :: r => if a ∈ fd ∨ a ∈ pre then sel fd (pre ++ [a]) r else a :: sel fd (pre ++ [a]) r
theorem sel_mem {fd : List (List Int)} : ∀ {xs pre : List (List Int)} {a : List Int}, a ∈ sel fd pre xs → a ∈ xs
  | [], _, _, h => by simp [sel] at h
  | x :: xs, pre, a, h => by
    rw [sel] at h
    split at h
    · exact List.mem_cons_of_mem _ (sel_mem h)
    · rcases List.mem_cons.mp h with rfl | h
      · exact List.mem_cons_self
      · exact List.mem_cons_of_mem _ (sel_mem h)
theorem sel_all {fd : List (List Int)} : ∀ {xs pre : List (List Int)} {a : List Int}, a ∈ xs → a ∈ fd ∨ a ∈ pre ∨ a ∈ sel fd pre xs
  | x :: xs, pre, a, h => by
    rw [sel]
    by_cases hx : x ∈ fd ∨ x ∈ pre
    · rw [if_pos hx]
      rcases List.mem_cons.mp h with rfl | h
      · exact hx.elim .inl fun z => .inr (.inl z)
      · rcases sel_all (fd := fd) (pre := pre ++ [x]) h with h | h | h
        · exact .inl h
        · rcases List.mem_append.mp h with h | h
          · exact .inr (.inl h)
          · rw [List.mem_singleton] at h; subst h
            exact hx.elim .inl fun z => .inr (.inl z)
        · exact .inr (.inr h)
    · rw [if_neg hx]
      rcases List.mem_cons.mp h with rfl | h
      · exact .inr (.inr List.mem_cons_self)
      · rcases sel_all (fd := fd) (pre := pre ++ [x]) h with h | h | h
        · exact .inl h
        · rcases List.mem_append.mp h with h | h
          · exact .inr (.inl h)
          · rw [List.mem_singleton] at h; subst h
            exact .inr (.inr List.mem_cons_self)
        · exact .inr (.inr (List.mem_cons_of_mem _ h))
theorem sel_new {fd : List (List Int)} : ∀ {xs pre : List (List Int)} {a : List Int}, a ∈ sel fd pre xs → a ∉ fd ∧ a ∉ pre
  | [], _, _, h => by simp [sel] at h
  | x :: xs, pre, a, h => by
    rw [sel] at h
    split at h
    · obtain ⟨h1, h2⟩ := sel_new h
      exact ⟨h1, fun z => h2 (List.mem_append_left _ z)⟩
    · rename_i hx
      rcases List.mem_cons.mp h with rfl | h
      · exact ⟨fun z => hx (.inl z), fun z => hx (.inr z)⟩
      · obtain ⟨h1, h2⟩ := sel_new h
        exact ⟨h1, fun z => h2 (List.mem_append_left _ z)⟩
theorem sel_nd {fd : List (List Int)} : ∀ {xs pre : List (List Int)}, (sel fd pre xs).Nodup
  | [], _ => by simp [sel]
  | x :: xs, pre => by
    rw [sel]
    split
    · exact sel_nd
    · exact List.nodup_cons.mpr ⟨fun h => (sel_new h).2 (by simp), sel_nd⟩
theorem sel_len {fd : List (List Int)} : ∀ {xs pre : List (List Int)}, (sel fd pre xs).length ≤ xs.length
  | [], _ => by simp [sel]
  | x :: xs, pre => by
    rw [sel]
    have := sel_len (fd := fd) (xs := xs) (pre := pre ++ [x])
    split
    · rw [List.length_cons]; omega
    · rw [List.length_cons, List.length_cons]; omega
def unlot : D → List Int
  | .lst ds => intsD ds
  | _ => []
theorem unlot_lot {l : List Int} : unlot (lotD l) = l := by
  show intsD (l.map D.int) = l
  induction l with
  | nil => rfl
  | cons x l ih =>
    rw [List.map_cons]
    show x :: intsD (l.map D.int) = _
    rw [ih]
theorem perm_lots {ls : List (List Int)} {ys : List D} (h : ys.Perm (ls.map lotD)) : ∃ ls' : List (List Int), ys = ls'.map lotD ∧ ls'.Perm ls := by
  refine ⟨ys.map unlot, ?_, ?_⟩
  · rw [List.map_map]
    conv => lhs; rw [← List.map_id ys]
    refine List.map_congr_left fun y hy => ?_
    obtain ⟨l, _, rfl⟩ := List.mem_map.mp (h.mem_iff.mp hy)
    show lotD l = lotD (unlot (lotD l))
    rw [unlot_lot]
  · have := h.map unlot
    rw [List.map_map] at this
    have e : ls.map (unlot ∘ lotD) = ls := by
      conv => rhs; rw [← List.map_id ls]
      exact List.map_congr_left fun l _ => unlot_lot
    rw [e] at this
    exact this
/-! ### a turn -/
def okY (y : Slot) : Prop := y = .no ∨ ∃ d, y = .val d
theorem fresh_ok (hm : 1 ≤ m) {l : D} {y2 y3 y4 y5 y6 y7 : Slot} (h3 : okY y3) (hS : Pot S) : ∃ (fr : List Int) (S' : List OD), Pot S' ∧ Lot fr ∧ exec (G m) u25_0 ⟨[.ref 0, .val l, y2, y3, y4, y5, y6, y7], S⟩ = some (.nx, ⟨[.ref 0, .val l, y2, y3, .val (lotD fr), y5, y6, y7], S'⟩) := by
  obtain ⟨r, S1, hp1, hr1, ed1⟩ := draw (n := m) (S := S) hm (m := 4) (by omega) (by omega) hS
  obtain ⟨xs, S2, hp2, hx2, ex⟩ : ∃ ys S', Pot S' ∧ All2 (fun _ d => ∃ k : Int, 0 ≤ k ∧ k < 4 ∧ d = .int k) (vals r) ys ∧ den (G m) c25_0 ⟨[.ref 0, .val l, y2, y3, y4, y5, y6, y7], S⟩ = some (.lst ys, ⟨[.ref 0, .val l, y2, y3, y4, y5, y6, y7], S'⟩) :=
    comp1 (S1 := S1) Pot _ (by rcases h3 with rfl | ⟨d, rfl⟩ <;> simp) (rng_ok (v_call (a_shr rfl (a_val (v_con rfl) a_nil)) ed1) (by omega)) (by rw [vals_len]; unfold sizeLine; omega) (fun v hv S hS => by
      obtain ⟨r, S', hp, hr, ed⟩ := draw (n := m) (S := S) hm (m := 4) (by omega) (by omega) hS
      exact ⟨.int r, S', hp, ⟨r, by omega, by omega, rfl⟩, v_call (a_shr rfl (a_val (v_con rfl) a_nil)) ed⟩) hp1
  have hx : ∀ d ∈ xs, ∃ k : Int, 0 ≤ k ∧ k < 4 ∧ d = .int k := forall₂_right hx2
  have lx : xs.length = r := by rw [← forall₂_len hx2, vals_len]
  have hxm : xs = (intsD xs).map D.int := by
    clear ex hx2 lx
    induction xs with
    | nil => rfl
    | cons d xs ih =>
      obtain ⟨k, _, _, rfl⟩ := hx d List.mem_cons_self
      show _ = D.int k :: (intsD xs).map D.int
      rw [← ih fun d hd => hx d (List.mem_cons_of_mem _ hd)]
  have hl : (intsD xs).length = r := by
    have := congrArg List.length hxm
    rw [List.length_map] at this
    omega
  have es : ssD (.lst xs) = some (lotD (ssI (intsD xs))) := by
    rw [hxm, ssD_ok (by omega), ← hxm]
  refine ⟨ssI (intsD xs), S2, hp2, ⟨ss_ext fun i => ssI_mem, fun i hi => ?_⟩, x_setv (v_ss ex es) (by simp)⟩
  rw [ssI_mem, intsD_mem] at hi
  obtain ⟨k, h1, h2, e⟩ := hx _ hi
  cases e
  exact ⟨h1, h2⟩
theorem more_ok {ls : List (List Int)} {fr : List Int} {y2 y3 y5 y6 y7 : Slot} (h6 : okY y6) (hL : Lots ls) (hl : ls.length ≤ 7) (hf : Lot fr) : exec (G m) u25_1 ⟨[.ref 0, .val (.lst (ls.map lotD)), y2, y3, .val (lotD fr), y5, y6, y7], S⟩ = some (.nx, ⟨[.ref 0, .val (.lst (ls.map lotD)), y2, .val (.lst ((fr :: ls.map fun a => un a fr).map lotD)), .val (lotD fr), y5, y6, y7], S⟩) := by
  have e : den (G m) c25_1 ⟨[.ref 0, .val (.lst (ls.map lotD)), y2, y3, .val (lotD fr), y5, y6, y7], S⟩ = some (.lst ((ls.map lotD).map fun d => lotD (un (unlot d) fr)), ⟨[.ref 0, .val (.lst (ls.map lotD)), y2, y3, .val (lotD fr), y5, y6, y7], S⟩) := by
    refine comp1p _ (by rcases h6 with rfl | ⟨d, rfl⟩ <;> simp) (it_l rfl) (by rw [List.length_map]; unfold sizeLine; omega) fun v hv => ?_
    obtain ⟨a, ha, rfl⟩ := List.mem_map.mp hv
    have la := (hL.lot a ha).len
    have lf := hf.len
    have b1 : binD .Add (lotD a) (lotD fr) = some (.lst ((a ++ fr).map D.int)) := by
      rw [List.map_append]
      exact bApp (by rw [List.length_map, List.length_map]; unfold sizeLine; omega)
    have b2 := ssD_ok (a := a ++ fr) (by rw [List.length_append]; omega)
    rw [unlot_lot]
    exact v_ss (v_bin (v_var rfl) (v_var rfl) b1) b2
  have e2 : (ls.map lotD).map (fun d => lotD (un (unlot d) fr)) = (ls.map fun a => un a fr).map lotD := by
    rw [List.map_map, List.map_map]
    exact List.map_congr_left fun a _ => by simp [unlot_lot]
  rw [e2] at e
  exact x_setv (v_bin (v_lst1 (v_var rfl)) e (bApp (xs := [lotD fr]) (by rw [List.length_map, List.length_map]; simp [sizeLine]; omega))) (by simp)
def gsel (ls more : List (List Int)) : D → List D
  | .tup [.int k, d] => if unlot d ∈ ls ∨ unlot d ∈ more.take k.toNat then [] else [d]
  | _ => []
theorem flat_sel {ls more : List (List Int)} : ∀ {xs pre : List (List Int)}, more = pre ++ xs → ((enumD pre.length (xs.map lotD)).map (gsel ls more)).flatten = (sel ls pre xs).map lotD
  | [], pre, _ => by simp [enumD, sel]
  | x :: xs, pre, h => by
    have ih := flat_sel (ls := ls) (more := more) (xs := xs) (pre := pre ++ [x]) (by rw [h]; simp)
    rw [List.length_append, List.length_singleton] at ih
    have ht : more.take pre.length = pre := by rw [h]; simp
    have hg : gsel ls more (.tup [.int pre.length, lotD x]) = if x ∈ ls ∨ x ∈ pre then [] else [lotD x] := by
      simp only [gsel, unlot_lot, Int.toNat_natCast, ht]
    rw [List.map_cons, enumD, List.map_cons, List.flatten_cons, ih, hg, sel]
    split <;> simp
theorem enum_at : ∀ {ds : List D} {k : Nat} {v : D}, v ∈ enumD k ds → ∃ (i : Nat) (d : D), v = .tup [.int (k + i : Nat), d] ∧ ds[i]? = some d
  | [], _, _, h => by simp [enumD] at h
  | d :: ds, k, v, h => by
    rw [enumD, List.mem_cons] at h
    rcases h with rfl | h
    · exact ⟨0, d, rfl, rfl⟩
    · obtain ⟨i, d', e, hd⟩ := enum_at h
      exact ⟨i + 1, d', by rw [e]; congr 4; omega, by simpa using hd⟩
theorem some_ok {ls more : List (List Int)} {fr : D} {y2 y5 y6 y7 : Slot} (h6 : okY y6) (h7 : okY y7) (hl : ls.length ≤ 7) (hm : more.length ≤ 8) : exec (G m) u25_2 ⟨[.ref 0, .val (.lst (ls.map lotD)), y2, .val (.lst (more.map lotD)), .val fr, y5, y6, y7], S⟩ = some (.nx, ⟨[.ref 0, .val (.lst (ls.map lotD)), y2, .val (.lst (more.map lotD)), .val fr, .val (.lst ((ls ++ sel ls [] more).map lotD)), y6, y7], S⟩) := by
  have e : den (G m) c25_2 ⟨[.ref 0, .val (.lst (ls.map lotD)), y2, .val (.lst (more.map lotD)), .val fr, y5, y6, y7], S⟩ = some (.lst ((sel ls [] more).map lotD), ⟨[.ref 0, .val (.lst (ls.map lotD)), y2, .val (.lst (more.map lotD)), .val fr, y5, y6, y7], S⟩) := by
    unfold c25_2
    rw [den]
    have hit : ∀ {x : Str} {p1 p2 p3 : Pos}, denIt (G m) (.enu (.var 3 x p1) p2 p3) ⟨[.ref 0, .val (.lst (ls.map lotD)), y2, .val (.lst (more.map lotD)), .val fr, y5, y6, y7], S⟩ = some (enumD 0 (more.map lotD), ⟨[.ref 0, .val (.lst (ls.map lotD)), y2, .val (.lst (more.map lotD)), .val fr, y5, y6, y7], S⟩) := by
      intro x p1 p2 p3
      rw [denIt, bnd_ok (v_var rfl)]
      rfl
    rw [bnd_ok hit]
    have hw : wipeL [.ref 0, .val (.lst (ls.map lotD)), y2, .val (.lst (more.map lotD)), .val fr, y5, y6, y7] [7, 6] = [.ref 0, .val (.lst (ls.map lotD)), y2, .val (.lst (more.map lotD)), .val fr, y5, .no, .no] := rfl
    have hb : backL [.ref 0, .val (.lst (ls.map lotD)), y2, .val (.lst (more.map lotD)), .val fr, y5, y6, y7] [.ref 0, .val (.lst (ls.map lotD)), y2, .val (.lst (more.map lotD)), .val fr, y5, y6, y7] [7, 6] = [.ref 0, .val (.lst (ls.map lotD)), y2, .val (.lst (more.map lotD)), .val fr, y5, y6, y7] := by
      rcases h6 with rfl | ⟨d, rfl⟩ <;> rcases h7 with rfl | ⟨d, rfl⟩ <;> rfl
    have hf := flat_sel (ls := ls) (more := more) (xs := more) (pre := []) rfl
    rw [List.length_nil] at hf
    rw [← hf]
    obtain ⟨L', e1, e2⟩ := run_pure (S := S) (ids := [7, 6]) (items := enumD 0 (more.map lotD)) (gsel ls more) hw (t := .tp (.cons (.nm 7 "_law_at" (P 166 47 54)) (.cons (.nm 6 "_law_one" (P 166 56 64)) .nil)) 0 (P 166 47 64))
      (body := bnd (denIfs (G m) (.cons (.bop .And (.cmp (.var 6 "_law_one" (P 166 92 100)) .NotIn (.var 1 "_law_found" (P 166 108 118)) (P 166 92 118)) (.cons (.cmp (.var 6 "_law_one" (P 166 123 131)) .NotIn (.sl (.var 3 "_law_more" (P 166 139 148)) .no (.yes (.var 7 "_law_at" (P 166 150 157))) (P 166 149 157) (P 166 139 158)) (P 166 123 158)) .nil) (P 166 92 158)) .nil)) fun c => if c then bnd (den (G m) (.var 6 "_law_one" (P 166 34 42))) fun d => ret [d] else ret []) fun v hv => by
      obtain ⟨k, d, rfl, hd⟩ := enum_at hv
      rw [Nat.zero_add]
      have hk : k < more.length := by
        have := (List.getElem?_eq_some_iff.mp hd).1
        rwa [List.length_map] at this
      obtain ⟨a, ha, rfl⟩ : ∃ a, more[k]? = some a ∧ d = lotD a := by
        rw [List.getElem?_map, Option.map_eq_some_iff] at hd
        obtain ⟨a, h1, h2⟩ := hd
        exact ⟨a, h1, h2.symm⟩
      refine ⟨[.ref 0, .val (.lst (ls.map lotD)), y2, .val (.lst (more.map lotD)), .val fr, y5, .val (lotD a), .val (.int k)], ?_, rfl⟩
      have hs : setT (.tp (.cons (.nm 7 "_law_at" (P 166 47 54)) (.cons (.nm 6 "_law_one" (P 166 56 64)) .nil)) 0 (P 166 47 64)) (.tup [.int k, lotD a]) ⟨[.ref 0, .val (.lst (ls.map lotD)), y2, .val (.lst (more.map lotD)), .val fr, y5, .no, .no], S⟩ = some ((), ⟨[.ref 0, .val (.lst (ls.map lotD)), y2, .val (.lst (more.map lotD)), .val fr, y5, .val (lotD a), .val (.int k)], S⟩) := rfl
      rw [bnd_ok hs]
      have c1 : cmpD .NotIn (lotD a) (.lst (ls.map lotD)) = some (.bl !decide (a ∈ ls)) := by
        simp only [cmpD, in_lots, Option.map_some]
      have c2 : cmpD .NotIn (lotD a) (.lst ((more.take k).map lotD)) = some (.bl !decide (a ∈ more.take k)) := by
        simp only [cmpD, in_lots, Option.map_some]
      have s1 := sl_to (xs := more.map lotD) (k := k) (by rw [List.length_map]; omega)
      rw [← List.map_take] at s1
      have hgs : gsel ls more (.tup [.int k, lotD a]) = if a ∈ ls ∨ a ∈ more.take k then [] else [lotD a] := by
        simp only [gsel, unlot_lot, Int.toNat_natCast]
      rw [hgs]
      have q1 := v_cmp (Γ := G m) (a := .var 6 "_law_one" (P 166 92 100)) (b := .var 1 "_law_found" (P 166 108 118)) (p := P 166 92 118) (s := ⟨[.ref 0, .val (.lst (ls.map lotD)), y2, .val (.lst (more.map lotD)), .val fr, y5, .val (lotD a), .val (.int k)], S⟩) (fun _ _ _ z => by cases z) (fun _ _ _ z => by cases z) (v_var rfl) (v_var rfl) c1
      have q2 := v_cmp (Γ := G m) (a := .var 6 "_law_one" (P 166 123 131)) (b := .sl (.var 3 "_law_more" (P 166 139 148)) .no (.yes (.var 7 "_law_at" (P 166 150 157))) (P 166 149 157) (P 166 139 158)) (p := P 166 123 158) (s := ⟨[.ref 0, .val (.lst (ls.map lotD)), y2, .val (.lst (more.map lotD)), .val fr, y5, .val (lotD a), .val (.int k)], S⟩) (fun _ _ _ z => by cases z) (fun _ _ _ z => by cases z) (v_var rfl) (v_slU (v_var rfl) (v_var rfl) s1) c2
      have q3 := v_var (Γ := G m) (i := 6) (x := "_law_one") (p := P 166 34 42) (L := [.ref 0, .val (.lst (ls.map lotD)), y2, .val (.lst (more.map lotD)), .val fr, y5, .val (lotD a), .val (.int k)]) (S := S) (d := lotD a) rfl
      by_cases h1 : a ∈ ls
      · rw [if_pos (.inl h1)]
        rw [decide_eq_true h1] at q1
        simp only [denIfs, den_and, bnd, q1, tr_b, ofO_s, ret, Bool.not_true, if_false, Bool.false_eq_true]
      · rw [decide_eq_false h1] at q1
        by_cases h2 : a ∈ more.take k
        · rw [if_pos (.inr h2)]
          rw [decide_eq_true h2] at q2
          simp only [denIfs, den_and, bnd, q1, q2, tr_b, ofO_s, ret, Bool.not_true, Bool.not_false, if_true, if_false, Bool.false_eq_true]
        · rw [if_neg (fun z => z.elim h1 h2)]
          rw [decide_eq_false h2] at q2
          simp only [denIfs, den_and, bnd, q1, q2, q3, tr_b, ofO_s, ret, Bool.not_true, Bool.not_false, if_true, if_false, Bool.false_eq_true]
    rw [← hw] at e2
    exact inScope_sp (ids := [7, 6]) e1 e2 hb (by
      rw [hf, List.length_map]
      have := sel_len (fd := ls) (xs := more) (pre := [])
      unfold sizeLine
      omega)
  have hsl := sel_len (fd := ls) (xs := more) (pre := [])
  rw [List.map_append]
  exact x_setv (v_bin (v_var rfl) e (bApp (by rw [List.length_map, List.length_map]; unfold sizeLine; omega))) (by simp)
end K44
end Dm

namespace Dm
open PySem L2
theorem v_ife_t {Γ : Env} {c a b : E} {p : Pos} {s s1 : St} {r : Option (D × St)} (h : den Γ c s = some (.bl true, s1)) (ha : den Γ a s1 = r) : den Γ (.ife c a b p) s = r := by
  rw [den, bnd_ok h]
  exact ha
theorem v_ife_f {Γ : Env} {c a b : E} {p : Pos} {s s1 : St} {r : Option (D × St)} (h : den Γ c s = some (.bl false, s1)) (ha : den Γ b s1 = r) : den Γ (.ife c a b p) s = r := by
  rw [den, bnd_ok h]
  exact ha
namespace K44
variable {n m : Nat} {S : List OD} {f : Nat → Nat → Nat}
def InvL (s : St) : Prop := ∃ (ls : List (List Int)) (y2 y3 y4 y5 y6 y7 : Slot) (S : List OD), s = ⟨[.ref 0, .val (.lst (ls.map lotD)), y2, y3, y4, y5, y6, y7], S⟩ ∧ Pot S ∧ Lots ls ∧ ls.length ≤ 7 ∧ okY y3 ∧ okY y6 ∧ okY y7
def InvJ (s : St) : Prop := ∃ (ls : List (List Int)) (y2 y3 y4 y5 y6 y7 : Slot) (S : List OD), s = ⟨[.ref 0, .val (.lst (ls.map lotD)), y2, y3, y4, y5, y6, y7], S⟩ ∧ Pot S ∧ Lots ls ∧ ls.length ≤ 7 ∧ okY y3 ∧ okY y6 ∧ okY y7 ∧ ls ≠ []
theorem turn_ok (hm : 1 ≤ m) {v : D} {s : St} {x : Str} {p : Pos} (h : InvL s) : ∃ s1 s2, setT (.nm 2 x p) v s = some ((), s1) ∧ execs (G m) s25_0 s1 = some (.nx, s2) ∧ InvJ s2 := by
  obtain ⟨ls, y2, y3, y4, y5, y6, y7, S, rfl, hS, hL, hl, h3, h6, h7⟩ := h
  obtain ⟨fr, S1, hS1, hf, e1⟩ := fresh_ok (l := .lst (ls.map lotD)) (y2 := .val v) (y4 := y4) (y5 := y5) (y6 := y6) (y7 := y7) hm h3 hS
  have e2 := more_ok (m := m) (S := S1) (ls := ls) (fr := fr) (y2 := .val v) (y3 := y3) (y5 := y5) (y6 := y6) (y7 := y7) h6 hL hl hf
  have e3 := some_ok (m := m) (S := S1) (ls := ls) (more := fr :: ls.map fun a => un a fr) (fr := lotD fr) (y2 := .val v) (y5 := y5) (y6 := y6) (y7 := y7) h6 h7 hl (by rw [List.length_cons, List.length_map]; omega)
  let ls' := ls ++ sel ls [] (fr :: ls.map fun a => un a fr)
  have hmem : ∀ a, a ∈ ls' ↔ a ∈ ls ∨ a = fr ∨ ∃ c ∈ ls, a = un c fr := fun a => by
    simp only [ls', List.mem_append]
    constructor
    · rintro (h | h)
      · exact .inl h
      · rcases List.mem_cons.mp (sel_mem h) with h | h
        · exact .inr (.inl h)
        · obtain ⟨c, hc, rfl⟩ := List.mem_map.mp h
          exact .inr (.inr ⟨c, hc, rfl⟩)
    · rintro (h | h)
      · exact .inl h
      · have hin : a ∈ fr :: ls.map fun a => un a fr := by
          rcases h with rfl | ⟨c, hc, rfl⟩
          · exact List.mem_cons_self
          · exact List.mem_cons_of_mem _ (List.mem_map.mpr ⟨c, hc, rfl⟩)
        rcases sel_all (fd := ls) (pre := []) hin with h | h | h
        · exact .inl h
        · cases h
        · exact .inr h
  have hL' : Lots ls' := lots_grow hL hf hmem (List.nodup_append.mpr ⟨hL.nd, sel_nd, fun a ha b hb e => (sel_new hb).1 (e ▸ ha)⟩)
  have hne : ls' ≠ [] := fun z => by
    have : fr ∈ ls' := (hmem fr).mpr (.inr (.inl rfl))
    rw [z] at this; cases this
  have bl : bi1D .len (.lst (ls'.map lotD)) = some (.int ls'.length) := by rw [b1L, List.length_map]
  have main : ∃ ls2 : List (List Int), Lots ls2 ∧ ls2.length ≤ 7 ∧ ls2 ≠ [] ∧ exec (G m) u25_3 ⟨[.ref 0, .val (.lst (ls.map lotD)), .val v, .val (.lst ((fr :: ls.map fun a => un a fr).map lotD)), .val (lotD fr), .val (.lst (ls'.map lotD)), y6, y7], S1⟩ = some (.nx, ⟨[.ref 0, .val (.lst (ls2.map lotD)), .val v, .val (.lst ((fr :: ls.map fun a => un a fr).map lotD)), .val (lotD fr), .val (.lst (ls'.map lotD)), y6, y7], S1⟩) := by
    by_cases hq : ls'.length < 8
    · have c : cmpD .Lt (.int ls'.length) (.int 8) = some (.bl true) := by simp [cmpD, cmpI]; omega
      exact ⟨ls', hL', by omega, hne, x_setv (v_ife_t (v_cmp (fun _ _ _ z => by cases z) (fun _ _ _ z => by cases z) (v_bi1 (fun _ _ _ z => by cases z) (v_var rfl) bl) (v_con rfl) c) (v_var rfl)) (by simp)⟩
    · have c : cmpD .Lt (.int ls'.length) (.int 8) = some (.bl false) := by simp [cmpD, cmpI]; omega
      refine ⟨ls, hL, hl, fun z => ?_, x_setv (v_ife_f (v_cmp (fun _ _ _ z => by cases z) (fun _ _ _ z => by cases z) (v_bi1 (fun _ _ _ z => by cases z) (v_var rfl) bl) (v_con rfl) c) (v_var rfl)) (by simp)⟩
      have h := sel_len (fd := ls) (xs := fr :: ls.map fun a => un a fr) (pre := [])
      have hlen : ls'.length = ls.length + (sel ls [] (fr :: ls.map fun a => un a fr)).length := List.length_append
      have z' : ls.length = 0 := by rw [z]; rfl
      rw [List.length_cons, List.length_map, z'] at h
      omega
  obtain ⟨ls2, k1, k2, k3, e4⟩ := main
  refine ⟨⟨[.ref 0, .val (.lst (ls.map lotD)), .val v, y3, y4, y5, y6, y7], S⟩, ⟨[.ref 0, .val (.lst (ls2.map lotD)), .val v, .val (.lst ((fr :: ls.map fun a => un a fr).map lotD)), .val (lotD fr), .val (.lst (ls'.map lotD)), y6, y7], S1⟩, rfl, ?_, ⟨ls2, _, _, _, _, _, _, S1, rfl, hS1, k1, k2, .inr ⟨_, rfl⟩, h6, h7, k3⟩⟩
  unfold s25_0
  rw [r_nx e1, r_nx e2, r_nx e3, r_nx e4]
  rfl
theorem lots (hm : 3 ≤ m) (hS : Pot S) : ∃ (ls : List (List Int)) (S' : List OD), Pot S' ∧ Lots ls ∧ ls.length ≤ 7 ∧ ls ≠ [] ∧ cl m 25 [.ref 0] S = some (.leaf (.lst (ls.map lotD)), S') := by
  obtain ⟨r, S1, hp1, hr1, ed1⟩ := draw (n := m - 1) (S := S) (by omega) (m := 5) (by omega) (by omega) hS
  obtain ⟨s', e1, ls, y2, y3, y4, y5, y6, y7, S2, rfl, hS2, hL, hl, h3, h6, h7, hne⟩ := for_inv2 (t := .nm 2 "_law_turn" (P 163 8 17)) (body := execs (G (m - 1)) s25_0) (items := vals (1 + r)) InvL InvJ (fun s ⟨ls, y2, y3, y4, y5, y6, y7, S, h0, h1, h2, h3, h4, h5, h6, _⟩ => ⟨ls, y2, y3, y4, y5, y6, y7, S, h0, h1, h2, h3, h4, h5, h6⟩) (fun v hv s hs => turn_ok (by omega) hs) (fun z => by have := congrArg List.length z; rw [vals_len] at this; simp at this)
    (s := ⟨[.ref 0, .val (.lst []), .no, .no, .no, .no, .no, .no], S1⟩) ⟨[], .no, .no, .no, .no, .no, .no, S1, rfl, hp1, ⟨(fun a h => by cases h), (fun a h => by cases h), List.nodup_nil⟩, by simp, .inl rfl, .inl rfl, .inl rfl⟩
  obtain ⟨ys, S3, hS3, pp, em⟩ := mixed (n := m - 1) (S := S2) (by omega) (xs := ls.map lotD) (by rw [List.length_map]; omega) (fun d hd => (gd_lots d hd).mono (by omega)) hS2
  obtain ⟨ls', rfl, pl⟩ := perm_lots pp
  refine ⟨ls', S3, hS3, ⟨fun a ha => hL.lot a (pl.mem_iff.mp ha), fun a ha b hb => pl.mem_iff.mpr (hL.cls a (pl.mem_iff.mp ha) b (pl.mem_iff.mp hb)), pl.nodup_iff.mpr hL.nd⟩, by rw [pl.length_eq]; exact hl, fun z => hne (by rw [z] at pl; exact pl.symm.eq_nil), ?_⟩
  refine call_ok (d := d25) rfl (by omega) rfl (L' := [.ref 0, .val (.lst (ls.map lotD)), y2, y3, y4, y5, y6, y7]) ?_
  show execs _ (.cons t25_0 (.cons t25_1 (.cons t25_2 .nil))) ⟨[.ref 0, .no, .no, .no, .no, .no, .no, .no], S⟩ = _
  rw [r_nx (s1 := ⟨[.ref 0, .val (.lst []), .no, .no, .no, .no, .no, .no], S⟩) (by simp [t25_0, exec, execs, den, dens, denB, denAs, denKs, denIt, denIfs, denEO, denOE, denOEs, denF, bnd, ret, readVar, peek, peekO, peekL, opn_bv, opn_var, opn_con, opn_glo, opn_tup, opn_lst, opn_bin, opn_sub, opn_att, opn_bi1, opn_call, opn_callK, opn_cmp, opn_ss, opn_sl, cmpM, subM, subB, attM, unaM, setSlot, setSlots, setV, setT, setTs, doCall, mutF, tst, andThen, ofO_s, leafD_l, tr_b, env_call, env_fn, env_wf, env_glob, conD, rtM, itD_l, itD_t])]
  have g1 : exec (G (m - 1)) t25_1 ⟨[.ref 0, .val (.lst []), .no, .no, .no, .no, .no, .no], S⟩ = some (.nx, ⟨[.ref 0, .val (.lst (ls.map lotD)), y2, y3, y4, y5, y6, y7], S2⟩) := by
    rw [t25_1, exec, bnd_ok (rng_ok (k := 1 + r) (v_bin (v_con rfl) (v_call (a_shr rfl (a_val (v_con rfl) a_nil)) ed1) (by rw [bAdd]; simp)) (by omega))]
    exact e1
  rw [r_nx g1]
  exact r_rt (x_ret (v_call (a_shr rfl (a_shv rfl a_nil)) em))
/-! ### a table that melts -/
theorem first_ok {c : List Int} : ∀ {ls : List (List Int)} {k : Nat}, c ∈ ls → firstEq (lotD c) k (ls.map lotD) = some (k + ls.idxOf c)
  | [], _, h => by cases h
  | a :: ls, k, h => by
    rw [List.map_cons, firstEq, eqv_lot, List.idxOf_cons]
    by_cases e : a = c
    · subst e; simp
    · have : (a == c) = false := by simpa using e
      rw [this]
      rcases List.mem_cons.mp h with h | h
      · exact absurd h.symm e
      · simp only [Bool.false_eq_true, if_false, cond_false]
        rw [first_ok h]
        congr 1
        omega
theorem idx_ok {ls : List (List Int)} {c : List Int} (h : c ∈ ls) : idxD (.lst (ls.map lotD)) (lotD c) = some (.int (ls.idxOf c : Nat)) := by
  unfold idxD
  simp only []
  rw [gd_lot.shaped (by omega), (gd_lst gd_lots).shaped (by omega), first_ok h]
  simp
theorem map_range {α β : Type} {ls : List α} {d : α} {g : α → β} : ls.map g = (List.range ls.length).map fun x => g (ls.getD x d) := by
  apply List.ext_getElem
  · simp
  · intro i h1 h2
    simp at h1
    simp [h1]
end K44
end Dm

namespace Dm
open PySem L2
theorem comp1R0 {Γ : Env} {elt : E} {it : Wk} {sc : Scope} {q p : Pos} {x y : Str} {i : Nat} {L : List Slot} {S1 : List OD} {items : List D} {s0 : St} (P : List OD → Prop) (Q : D → List D → Prop) (hb : L[i]? = some .no ∨ ∃ d, L[i]? = some (.val d)) (hit : denIt Γ it s0 = some (items, ⟨L, S1⟩)) (hz : items.length ≤ sizeLine)
    (h : ∀ v ∈ items, ∀ S, P S → ∃ a S', P S' ∧ Q v a ∧ denF Γ elt ⟨L.set i (.val v), S⟩ = some (a, ⟨L.set i (.val v), S'⟩)) (hP : P S1) :
    ∃ ys S', P S' ∧ All2 Q items ys ∧ denR Γ (.comp elt (.nm i x p) it .nil sc [(y, i)] q) s0 = some (ys, ⟨L, S'⟩) := by
  have hi : i < L.length := by
    rcases hb with h | ⟨d, h⟩ <;> exact (List.getElem?_eq_some_iff.mp h).1
  obtain ⟨ys, S', L', p1, p2, p3, p4⟩ := run1 (Γ := Γ) (x := x) (p := p) P Q hi h hP
  refine ⟨ys, S', p1, p2, ?_⟩
  have hz' : ys.length ≤ sizeLine := by rw [← forall₂_len p2]; exact hz
  have hs := inBlk_sp p3 p4 (back1 hb) hz'
  simp only [denR, bnd, hit]
  exact hs
theorem getD_mem {α : Type} {r : List α} {y : Nat} {d : α} (h : y < r.length) : r.getD y d ∈ r := by simp [h]
section
variable {Γ : Env}
theorem oe_v {e : E} {s s1 : St} {d : D} (h : den Γ e s = some (d, s1)) : denOE Γ (.v e) s = some (.val d, s1) := by
  rw [denOE, bnd_ok h]; rfl
theorem oe_r {e : E} {s s1 : St} {d : List (List D)} (h : denR Γ e s = some (d, s1)) : denOE Γ (.oo e) s = some (.own (.ll d), s1) := by
  rw [denOE, bnd_ok h]; rfl
theorem x_set {e : OE} {nm : Nm} {p : Pos} {s : St} {x : Slot} {L : List Slot} {S : List OD} (h : denOE Γ e s = some (x, ⟨L, S⟩)) (hi : nm.i < L.length) : exec Γ (.set nm e p) s = some (.nx, ⟨L.set nm.i x, S⟩) := by
  rw [exec, bnd_ok h]
  simp only [ret, bnd, setSlot, hi, if_true]
theorem x_par2 {e1 e2 : OE} {n1 n2 : Nm} {kt ke : Nat} {pt pe p : Pos} {s s1 : St} {x1 x2 : Slot} {L : List Slot} {S : List OD} (h1 : denOE Γ e1 s = some (x1, s1)) (h2 : denOE Γ e2 s1 = some (x2, ⟨L, S⟩)) (hi : n1.i < L.length) (hj : n2.i < L.length) :
    exec Γ (.par [n1, n2] kt pt [e1, e2] ke pe p) s = some (.nx, ⟨(L.set n1.i x1).set n2.i x2, S⟩) := by
  simp only [exec, denOEs, bnd, h1, h2, ret, setSlots, setSlot, hi, List.length_set, hj, if_true]
end
namespace K44
variable {n m : Nat} {S : List OD} {f : Nat → Nat → Nat}
structure Rws (n : Nat) (dss : List (List D)) : Prop where
  len : dss.length = n
  row : ∀ r ∈ dss, r.length = n ∧ Is' n r
theorem Rws.of (hT : Tb n f) : Rws n ((List.range n).map fun x => rowL n (f x)) := by
  refine ⟨by simp, fun r hr => ?_⟩
  obtain ⟨x, hx, rfl⟩ := List.mem_map.mp hr
  refine ⟨rowL_len, fun d hd => ?_⟩
  obtain ⟨y, hy, rfl⟩ := rowL_mem hd
  exact ⟨_, hT.in' x (List.mem_range.mp hx) y hy, rfl⟩
theorem Rws.to {dss : List (List D)} (h : Rws n dss) (h1 : 1 ≤ n) (h7 : n ≤ 7) : ∃ f, Tb n f ∧ (OD.ll dss).toD = rowsD n f := by
  let num : D → Nat := fun d => match d with | .int k => k.toNat | _ => 0
  have hx : ∀ x, x < n → dss.getD x [] ∈ dss := fun x hx => by
    have : x < dss.length := by rw [h.len]; exact hx
    simp [this]
  have hy : ∀ x, x < n → ∀ y, y < n → ∃ k : Nat, k < n ∧ (dss.getD x []).getD y .non = .int k := fun x hx' y hy => by
    obtain ⟨l1, l2⟩ := h.row _ (hx x hx')
    have : y < (dss.getD x []).length := by rw [l1]; exact hy
    exact l2 _ (getD_mem this)
  refine ⟨fun x y => num ((dss.getD x []).getD y .non), ⟨h1, h7, fun x hx' y hy' => ?_⟩, ?_⟩
  · obtain ⟨k, hk, e⟩ := hy x hx' y hy'
    simp only [e, num]
    simpa using hk
  · show D.lst (dss.map D.lst) = _
    unfold rowsD rowsL
    congr 1
    rw [map_range (d := []), h.len]
    refine List.map_congr_left fun x hx' => ?_
    have hx' := List.mem_range.mp hx'
    congr 1
    obtain ⟨l1, l2⟩ := h.row _ (hx x hx')
    conv => lhs; rw [← List.map_id (dss.getD x []), map_range (d := .non), l1]
    unfold rowL
    refine List.map_congr_left fun y hy' => ?_
    obtain ⟨k, hk, e⟩ := hy x hx' y (List.mem_range.mp hy')
    simp only [e, num, id]
    simp
theorem Rws.set {dss : List (List D)} {ds : List D} {k l v : Nat} (h : Rws n dss) (hd : dss[k]? = some ds) (hv : v < n) : Rws n (dss.set k (ds.set l (.int v))) := by
  have hds := List.mem_of_getElem? hd
  refine ⟨by rw [List.length_set, h.len], fun r hr => ?_⟩
  rcases List.mem_or_eq_of_mem_set hr with hr | rfl
  · exact h.row r hr
  · obtain ⟨l1, l2⟩ := h.row ds hds
    refine ⟨by rw [List.length_set, l1], fun d hd' => ?_⟩
    rcases List.mem_or_eq_of_mem_set hd' with hd' | rfl
    · exact l2 d hd'
    · exact ⟨v, hv, rfl⟩
theorem Pot.flat (h : Pot S) : S.all OD.flat = true := by
  obtain ⟨a, b, rfl, _⟩ := h
  simp [OD.flat, D.atom]
end K44
end Dm

namespace Dm
open PySem L2
namespace K44
variable {n m : Nat} {S : List OD} {f : Nat → Nat → Nat}
/-! ### the plain law: tables that melt -/
structure SL (n : Nat) (f : Nat → Nat → Nat) : Prop where
  idem : ∀ x, x < n → f x x = x
  comm : ∀ x y, x < n → y < n → f x y = f y x
  asso : ∀ x y z, x < n → y < n → z < n → f (f x y) z = f x (f y z)
theorem res_I {x : Nat} : (I x).res f = x := by simp [I, Tr.res]
theorem mB_iff : mB n f = true ↔ SL n f := by
  unfold mB pt
  rw [Option.isNone_iff_eq_none, List.find?_eq_none]
  constructor
  · intro h
    have h : ∀ p ∈ known n, p.1.res f = p.2.res f := fun p hp => by
      have := h p hp
      simpa using this
    refine ⟨fun x hx => ?_, fun x y hx hy => ?_, fun x y z hx hy hz => ?_⟩
    · simpa [Tr.res, res_I] using h _ (known_mem.mpr (.inl ⟨x, hx, rfl⟩))
    · simpa [Tr.res, res_I] using h _ (known_mem.mpr (.inr (.inl ⟨x, y, hx, hy, rfl⟩)))
    · simpa [Tr.res, res_I] using h _ (known_mem.mpr (.inr (.inr ⟨x, y, z, hx, hy, hz, rfl⟩)))
  · intro h p hp
    have : p.1.res f = p.2.res f := by
      rcases known_mem.mp hp with ⟨x, hx, rfl⟩ | ⟨x, y, hx, hy, rfl⟩ | ⟨x, y, z, hx, hy, hz, rfl⟩
      · simp [Tr.res, res_I, h.idem x hx]
      · simp [Tr.res, res_I, h.comm x y hx hy]
      · simp [Tr.res, res_I, h.asso x y z hx hy hz]
    simp [this]
/-! ### what comes of many values -/
def jn (f : Nat → Nat → Nat) : List Nat → Nat
  | [] => 0
  | [x] => x
  | x :: y :: r => f x (jn f (y :: r))
theorem jn_lt (hT : Tb n f) : ∀ {l : List Nat}, l ≠ [] → (∀ x ∈ l, x < n) → jn f l < n
  | [x], _, h => h x List.mem_cons_self
  | x :: y :: r, _, h => hT.in' _ (h x List.mem_cons_self) _ (jn_lt hT (by simp) fun z hz => h z (List.mem_cons_of_mem _ hz))
theorem jn_app (hT : Tb n f) (h : SL n f) : ∀ {a b : List Nat}, a ≠ [] → b ≠ [] → (∀ x ∈ a, x < n) → (∀ x ∈ b, x < n) → jn f (a ++ b) = f (jn f a) (jn f b)
  | [x], b, _, hb, h1, h2 => by
    match b, hb with
    | y :: r, _ => rfl
  | x :: y :: r, b, _, hb, h1, h2 => by
    have hr : ∀ z ∈ y :: r, z < n := fun z hz => h1 z (List.mem_cons_of_mem _ hz)
    have ih := jn_app hT h (a := y :: r) (b := b) (by simp) hb hr h2
    show f x (jn f ((y :: r) ++ b)) = f (f x (jn f (y :: r))) (jn f b)
    rw [ih, h.asso _ _ _ (h1 x List.mem_cons_self) (jn_lt hT (by simp) hr) (jn_lt hT hb h2)]
theorem jn_abs (hT : Tb n f) (h : SL n f) : ∀ {l : List Nat} {x : Nat}, (∀ y ∈ l, y < n) → x ∈ l → f x (jn f l) = jn f l
  | [y], x, hl, hx => by
    rw [List.mem_singleton] at hx; subst hx
    exact h.idem x (hl x List.mem_cons_self)
  | y :: z :: r, x, hl, hx => by
    have hy := hl y List.mem_cons_self
    have hr : ∀ w ∈ z :: r, w < n := fun w hw => hl w (List.mem_cons_of_mem _ hw)
    have hj := jn_lt hT (l := z :: r) (by simp) hr
    show f x (f y (jn f (z :: r))) = f y (jn f (z :: r))
    rcases List.mem_cons.mp hx with rfl | hx
    · rw [← h.asso x x _ hy hy hj, h.idem x hy]
    · have hxn := hr x hx
      rw [← h.asso x y _ hxn hy hj, h.comm x y hxn hy, h.asso y x _ hy hxn hj, jn_abs hT h hr hx]
theorem jn_sub (hT : Tb n f) (h : SL n f) : ∀ {b a : List Nat}, b ≠ [] → a ≠ [] → (∀ y ∈ a, y < n) → (∀ x ∈ b, x ∈ a) → f (jn f b) (jn f a) = jn f a
  | [x], a, _, _, ha, hb => jn_abs hT h ha (hb x List.mem_cons_self)
  | x :: y :: r, a, _, h0, ha, hb => by
    have hx := ha x (hb x List.mem_cons_self)
    have hr : ∀ z ∈ y :: r, z ∈ a := fun z hz => hb z (List.mem_cons_of_mem _ hz)
    have hj := jn_lt hT (l := y :: r) (by simp) fun z hz => ha z (hr z hz)
    have hja := jn_lt hT h0 ha
    show f (f x (jn f (y :: r))) (jn f a) = jn f a
    rw [h.asso x _ _ hx hj hja, jn_sub hT h (by simp) h0 ha hr, jn_abs hT h ha (hb x List.mem_cons_self)]
theorem jn_ext (hT : Tb n f) (h : SL n f) {a b : List Nat} (ha : a ≠ []) (hb : b ≠ []) (hn : ∀ y ∈ a, y < n) (hab : ∀ x, x ∈ a ↔ x ∈ b) : jn f a = jn f b := by
  have hnb : ∀ y ∈ b, y < n := fun y hy => hn y ((hab y).mpr hy)
  rw [← jn_sub hT h hb ha hn fun x hx => (hab x).mpr hx, h.comm _ _ (jn_lt hT hb hnb) (jn_lt hT ha hn), jn_sub hT h ha hb hnb fun x hx => (hab x).mp hx]
def num : D → Nat
  | .int k => k.toNat
  | _ => 0
/-! ### values called otherwise -/
theorem melting (hm : 4 ≤ m) (hS : Pot S) : ∃ (n : Nat) (f : Nat → Nat → Nat) (S' : List OD), Tb n f ∧ SL n f ∧ Pot S' ∧ cl m 26 [.ref 0] S = some (.ll ((List.range n).map fun x => rowL n (f x)), S') := by
  obtain ⟨ls, S1, hS1, hL, hl, hne, e1⟩ := lots (m := m - 1) (by omega) hS
  let f : Nat → Nat → Nat := fun x y => ls.idxOf (un (ls.getD x []) (ls.getD y []))
  have hin : ∀ x, x < ls.length → ls.getD x [] ∈ ls := fun x hx => by simp [hx]
  refine ⟨ls.length, f, S1, ⟨List.length_pos_iff.mpr hne, hl, fun x hx y hy => List.idxOf_lt_length_of_mem (hL.cls _ (hin x hx) _ (hin y hy))⟩, ?sl, hS1, ?_⟩
  case sl =>
    have hget : ∀ c ∈ ls, ls.getD (ls.idxOf c) [] = c := fun c hc => by
      have := List.idxOf_lt_length_of_mem hc
      simp [this]
    have hid : ∀ x, x < ls.length → ls.idxOf (ls.getD x []) = x := fun x hx => by
      have e : ls.getD x [] = ls[x] := by simp [hx]
      rw [e]
      exact hL.nd.idxOf_getElem x hx
    refine ⟨fun x hx => ?_, fun x y hx hy => ?_, fun x y z hx hy hz => ?_⟩
    · show ls.idxOf (un _ _) = x
      rw [un_self (hL.lot _ (hin x hx)), hid x hx]
    · show ls.idxOf (un _ _) = ls.idxOf (un _ _)
      rw [un_eq fun i => Or.comm]
    · show ls.idxOf (un (ls.getD (ls.idxOf (un _ _)) []) _) = ls.idxOf (un _ (ls.getD (ls.idxOf (un _ _)) []))
      rw [hget _ (hL.cls _ (hin x hx) _ (hin y hy)), hget _ (hL.cls _ (hin y hy) _ (hin z hz))]
      congr 1
      exact un_eq fun i => by rw [un_mem, un_mem]; exact or_assoc
  obtain ⟨ys, S2, rfl, hy, e2⟩ : ∃ ys S', S' = S1 ∧ All2 (fun v r => r = (ls.map lotD).map fun w => D.int (ls.idxOf (un (unlot v) (unlot w)) : Nat)) (ls.map lotD) ys ∧ denR (G (m - 1)) c26_1 ⟨[.ref 0, .val (.lst (ls.map lotD)), .no, .no], S1⟩ = some (ys, ⟨[.ref 0, .val (.lst (ls.map lotD)), .no, .no], S'⟩) :=
    comp1R (fun S' => S' = S1) _ (.inl rfl) (it_l rfl) (by rw [List.length_map]; unfold sizeLine; omega) (fun v hv S2 hS2 => by
      subst hS2
      obtain ⟨a, ha, rfl⟩ := List.mem_map.mp hv
      obtain ⟨zs, S3, rfl, hz, e3⟩ : ∃ ys S', S' = S2 ∧ All2 (fun w d => d = D.int (ls.idxOf (un a (unlot w)) : Nat)) (ls.map lotD) ys ∧ denF (G (m - 1)) c26_0 ⟨[.ref 0, .val (.lst (ls.map lotD)), .val (lotD a), .no], S2⟩ = some (ys, ⟨[.ref 0, .val (.lst (ls.map lotD)), .val (lotD a), .no], S'⟩) :=
        comp1F (fun S' => S' = S2) _ (.inl rfl) (it_l rfl) (by rw [List.length_map]; unfold sizeLine; omega) (fun w hw S3 hS3 => by
          subst hS3
          obtain ⟨b, hb, rfl⟩ := List.mem_map.mp hw
          have la := (hL.lot a ha).len
          have lb := (hL.lot b hb).len
          have b1 : binD .Add (lotD a) (lotD b) = some (.lst ((a ++ b).map D.int)) := by
            rw [List.map_append]
            exact bApp (by rw [List.length_map, List.length_map]; unfold sizeLine; omega)
          have b2 := ssD_ok (a := a ++ b) (by rw [List.length_append]; omega)
          refine ⟨_, _, rfl, rfl, ?_⟩
          rw [unlot_lot]
          exact v_idx (v_var rfl) (v_ss (v_bin (v_var rfl) (v_var rfl) b1) b2) (idx_ok (hL.cls a ha b hb))) rfl
      refine ⟨zs, _, rfl, ?_, e3⟩
      rw [forall₂_map hz, unlot_lot]) rfl
  have ey : ys = (List.range ls.length).map fun x => rowL ls.length (f x) := by
    rw [forall₂_map hy, List.map_map, map_range (d := [])]
    refine List.map_congr_left fun x _ => ?_
    simp only [Function.comp, List.map_map, unlot_lot]
    rw [map_range (d := [])]
    simp [rowL, f, unlot_lot]
  rw [← ey]
  refine call_ok (d := d26) rfl (by omega) rfl (L' := [.ref 0, .val (.lst (ls.map lotD)), .no, .no]) ?_
  show execs _ (.cons t26_0 (.cons t26_1 .nil)) ⟨[.ref 0, .no, .no, .no], S⟩ = _
  rw [r_nx (s1 := ⟨[.ref 0, .val (.lst (ls.map lotD)), .no, .no], S2⟩) (x_setv (v_call (a_shr rfl a_nil) e1) (by simp))]
  refine r_rt ?_
  rw [t26_1, exec, denOE, bnd_ok (bnd_ok e2)]
  rfl
end K44
end Dm

namespace Dm
open PySem L2
theorem bRep {d : D} {k : Nat} (h : k < 1000) : binD .Mult (.lst [d]) (.int k) = some (.lst (List.replicate k d)) := by
  have : binD .Mult (.lst [d]) (.int k) = some (.lst (List.replicate (k : Int).toNat [d]).flatten) := by
    unfold binD
    simp only []
    rw [if_pos ⟨by omega, by omega, by simp [sizeLine]; omega⟩]
  rw [this]
  simp
theorem v_new {Γ : Env} {k f : Nat} {x : Str} {p q : Pos} {as : As} {s s1 s2 : St} {sl : List Slot} {d : D} (ha : denAs Γ as s = some (sl, s1)) (h : make Γ k f sl s1 = some (d, s2)) : den Γ (.new k f x p as q) s = some (d, s2) := by
  rw [den, bnd_ok ha]
  exact h
theorem v_lst3 {Γ : Env} {a b c : E} {p : Pos} {s s1 s2 s3 : St} {x y z : D} (ha : den Γ a s = some (x, s1)) (hb : den Γ b s1 = some (y, s2)) (hc : den Γ c s2 = some (z, s3)) : den Γ (.lst (.cons a (.cons b (.cons c .nil))) p) s = some (.lst [x, y, z], s3) := by
  simp only [den, dens, bnd, ha, hb, hc, ret, List.length_cons, List.length_nil, sizeLine]
  rfl
theorem v_isi {Γ : Env} {a : E} {t : Ty} {p1 p2 p3 : Pos} {s s1 : St} {x : D} {b : Bool} (na : ∀ i z q, a ≠ .bv i z q) (ha : den Γ a s = some (x, s1)) (h : isiD x t = some b) : den Γ (.isi a t p1 p2 p3) s = some (.bl b, s1) := by
  rw [den]
  have h1 : opn (den Γ a) a = den Γ a := by
    unfold opn
    split
    · exact absurd rfl (na _ _ _)
    · rfl
  rw [h1, bnd_ok ha, h]; rfl
namespace K44
variable {n m : Nat} {S : List OD} {f : Nat → Nat → Nat}
/-! ### truths -/
/-! ### halved and halved again -/
/-! ### long melts -/
end K44
end Dm

namespace Dm
open PySem L2
section
variable {Γ : Env}
theorem e_nil {s : St} : dens Γ .nil s = some ([], s) := by rw [dens]; rfl
theorem e_cons {e : E} {es : Es} {s s1 s2 : St} {d : D} {ds : List D} (h : den Γ e s = some (d, s1)) (hs : dens Γ es s1 = some (ds, s2)) : dens Γ (.cons e es) s = some (d :: ds, s2) := by
  rw [dens, bnd_ok h, bnd_ok hs]; rfl
theorem v_lst {es : Es} {p : Pos} {s s1 : St} {ds : List D} (h : dens Γ es s = some (ds, s1)) (hl : ds.length ≤ 100) : den Γ (.lst es p) s = some (.lst ds, s1) := by
  rw [den, bnd_ok h, if_pos (by unfold sizeLine; omega)]
  rfl
theorem v_tup {es : Es} {k : Nat} {p : Pos} {s s1 : St} {ds : List D} (h : dens Γ es s = some (ds, s1)) (hl : ds.length ≤ 100) : den Γ (.tup es k p) s = some (.tup ds, s1) := by
  rw [den, bnd_ok h, if_pos (by unfold sizeLine; omega)]
  rfl
theorem x_asg {t : Tg} {e : E} {p : Pos} {s s1 s2 : St} {d : D} (h : den Γ e s = some (d, s1)) (ht : setT t d s1 = some ((), s2)) : exec Γ (.asg t e p) s = some (.nx, s2) := by
  rw [exec, bnd_ok h, bnd_ok ht]; rfl
theorem v_callK2 {f : Nat} {x k1 k2 : Str} {p q q1 q2 : Pos} {e1 e2 : E} {s s1 : St} {d1 d2 d : D} {L : List Slot} {S S' : List OD} (h1 : den Γ e1 s = some (d1, s1)) (h2 : den Γ e2 s1 = some (d2, ⟨L, S⟩)) (h : Γ.call f [.val d2, .val d1] S = some (.leaf d, S')) :
    den Γ (.callK f x p (.cons k1 e1 q1 (.cons k2 e2 q2 .nil)) 2 [1, 0] q) s = some (d, ⟨L, S'⟩) := by
  have hk : denKs Γ (.cons k1 e1 q1 (.cons k2 e2 q2 .nil)) s = some ([d1, d2], ⟨L, S⟩) := by
    simp only [denKs, bnd, h1, h2, ret]
  rw [den, bnd_ok hk]
  unfold callKM
  rw [if_pos (show (perm [1, 0] [d1, d2]).length = 2 from rfl), bnd_ok (show doCall Γ f _ ⟨L, S⟩ = some (.leaf d, ⟨L, S'⟩) by unfold doCall; simp only [show (perm [1, 0] [d1, d2]).map Slot.val = [.val d2, .val d1] from rfl, h])]
  rfl
theorem v_callK1 {f : Nat} {x k1 : Str} {p q q1 : Pos} {e1 : E} {s : St} {d1 d : D} {L : List Slot} {S S' : List OD} (h1 : den Γ e1 s = some (d1, ⟨L, S⟩)) (h : Γ.call f [.val d1] S = some (.leaf d, S')) :
    den Γ (.callK f x p (.cons k1 e1 q1 .nil) 1 [0] q) s = some (d, ⟨L, S'⟩) := by
  have hk : denKs Γ (.cons k1 e1 q1 .nil) s = some ([d1], ⟨L, S⟩) := by
    simp only [denKs, bnd, h1, ret]
  rw [den, bnd_ok hk]
  unfold callKM
  rw [if_pos (show (perm [0] [d1]).length = 1 from rfl), bnd_ok (show doCall Γ f _ ⟨L, S⟩ = some (.leaf d, ⟨L, S'⟩) by unfold doCall; simp only [show (perm [0] [d1]).map Slot.val = [.val d1] from rfl, h])]
  rfl
end
theorem bl2 {a b a' b' : Bool} : eqD (.lst [.bl a, .bl b]) (.lst [.bl a', .bl b']) = some (a == a' && b == b') := by
  have hg : ∀ a b, gd 1 (.lst [.bl a, .bl b]) := fun a b => gd_lst fun d hd => by
    simp at hd
    rcases hd with rfl | rfl <;> exact gd_bl
  rw [eqD_gd (hg a b) (hg a' b') (by omega) (by omega)]
  simp [D.py, D.pys, PyData.eqv, PyData.eqvAll]
theorem ne_bl2 {a : Bool} : cmpD .NotEq (.lst [.bl a, .bl a]) (.lst [.bl a, .bl a]) = some (.bl false) := by
  simp only [cmpD, bl2, Option.map_some]
  simp
namespace K44
variable {n m : Nat} {S : List OD} {f : Nat → Nat → Nat}
end K44
end Dm

namespace Dm
open PySem L2
theorem den_or {Γ : Env} {e e2 : E} {p : Pos} : den Γ (.bop .Or e (.cons e2 .nil) p) = bnd (den Γ e) fun x => bnd (ofO x.tr) fun b => if b then ret x else den Γ e2 := by
  rw [den, denB]
  rfl
section
variable {Γ : Env} {e e2 : E} {p : Pos} {s s1 : St} {r : Option (D × St)}
theorem v_or_f (h : den Γ e s = some (.bl false, s1)) (h2 : den Γ e2 s1 = r) : den Γ (.bop .Or e (.cons e2 .nil) p) s = r := by
  rw [den_or, bnd_ok h]; exact h2
theorem v_and_t (h : den Γ e s = some (.bl true, s1)) (h2 : den Γ e2 s1 = r) : den Γ (.bop .And e (.cons e2 .nil) p) s = r := by
  rw [den_and, bnd_ok h]; exact h2
theorem v_and_f (h : den Γ e s = some (.bl false, s1)) : den Γ (.bop .And e (.cons e2 .nil) p) s = some (.bl false, s1) := by
  rw [den_and, bnd_ok h]; rfl
end
theorem ne_bl {b : Bool} : cmpD .NotEq (.bl b) (.bl b) = some (.bl false) := by
  simp only [cmpD, eq_bl, Option.map_some]; simp
theorem eq_blb {b : Bool} : cmpD .Eq (.bl b) (.bl b) = some (.bl true) := by
  simp only [cmpD, eq_bl, Option.map_some]; simp
namespace K44
variable {n m : Nat} {S : List OD} {f : Nat → Nat → Nat}
theorem v_eqO {Γ : Env} {a b : E} {p : Pos} {s s1 s2 : St} (h1 : den Γ a s = some (tabD n f, s1)) (h2 : den Γ b s1 = some (tabD n f, s2)) (h : Γ.call 7 [.val (tabD n f), .val (tabD n f)] s2.S = some (.leaf (.bl true), s2.S)) : den Γ (.eqO 0 7 a b p) s = some (.bl true, s2) := by
  rw [den, bnd_ok h1, bnd_ok h2]
  unfold tabD at h ⊢
  unfold eqM
  simp only [and_self, if_true]
  rw [bnd_ok (show doCall Γ 7 _ s2 = some (.leaf (.bl true), s2) by unfold doCall; rw [h])]
  rfl
theorem eq_nat {a b : Nat} : cmpD .Eq (.int a) (.int b) = some (.bl (a == b)) := by
  simp only [cmpD, eq_int, Option.map_some, int_beq]
/-! ### names -/
theorem perm_vals {ys : List D} (h : ys.Perm (vals n)) : ∃ ns : List Nat, ys = ns.map (fun (x : Nat) => D.int x) ∧ ns.Perm (List.range n) := by
  refine ⟨ys.map num, ?_, ?_⟩
  · rw [List.map_map]
    conv => lhs; rw [← List.map_id ys]
    refine List.map_congr_left fun y hy => ?_
    obtain ⟨k, _, rfl⟩ := vals_mem (h.mem_iff.mp hy)
    simp [num]
  · have := h.map num
    have e : (vals n).map num = List.range n := by
      unfold vals
      rw [List.map_map]
      conv => rhs; rw [← List.map_id (List.range n)]
      exact List.map_congr_left fun k _ => by simp [num]
    rw [e] at this
    exact this
end K44
end Dm

namespace Dm
open PySem L2
theorem v_notT {Γ : Env} {a : E} {p : Pos} {s s1 : St} (h : den Γ a s = some (.bl true, s1)) : den Γ (.una .Not a p) s = some (.bl false, s1) := v_not h
namespace K44
variable {n m : Nat} {S : List OD} {f : Nat → Nat → Nat}
theorem Pot.one (h : Pot S) : ∃ o, S = [o] := by obtain ⟨a, b, rfl, _⟩ := h; exact ⟨_, rfl⟩
end K44
end Dm

namespace Dm
open PySem L2
section
variable {Γ : Env} {p q p2 p3 : Pos} {x y : Str} {s s1 s2 : St} {L L1 : List Slot} {S S' S1 : List OD} {o : OD} {sl : List Slot} {f k n i j : Nat} {π : List Nat} {ks : Ks} {as : As} {e a b c : E} {d : D} {ds : List D}
theorem v_callO (ha : denAs Γ as s = some (sl, ⟨L, S⟩)) (h : Γ.call f sl S = some (o, S')) : den Γ (.call f x p as q) s = some (o.toD, ⟨L, S'⟩) := by
  rw [den, bnd_ok ha]
  simp only [bnd, doCall, h]
  rw [leafD_eq]; rfl
theorem k_nil : denKs Γ .nil s = some ([], s) := by rw [denKs]; rfl
theorem k_cons (h : den Γ e s = some (d, s1)) (hs : denKs Γ ks s1 = some (ds, s2)) : denKs Γ (.cons x e p ks) s = some (d :: ds, s2) := by
  rw [denKs, bnd_ok h, bnd_ok hs]; rfl
theorem v_callK (h : denKs Γ ks s = some (ds, ⟨L, S⟩)) (hl : (perm π ds).length = n) (hc : Γ.call f ((perm π ds).map .val) S = some (o, S')) : den Γ (.callK f x p ks n π q) s = some (o.toD, ⟨L, S'⟩) := by
  rw [den, bnd_ok h]
  unfold callKM
  rw [if_pos hl]
  simp only [bnd, doCall, hc]
  rw [leafD_eq]; rfl
theorem c_call {z : Slot} (ha : denAs Γ as s = some (sl, ⟨L, S⟩)) (h : Γ.call f sl S = some (o, S')) (hs : o.slot = some z) : denOE Γ (.oc (.call f x p as q)) s = some (z, ⟨L, S'⟩) := by
  rw [denOE, denC, bnd_ok ha]
  simp only [bnd, doCall, h]
  rw [hs]; rfl
theorem c_callK {z : Slot} (h : denKs Γ ks s = some (ds, ⟨L, S⟩)) (hl : (perm π ds).length = n) (hc : Γ.call f ((perm π ds).map .val) S = some (o, S')) (hs : o.slot = some z) : denOE Γ (.oc (.callK f x p ks n π q)) s = some (z, ⟨L, S'⟩) := by
  rw [denOE, denC, bnd_ok h, if_pos hl]
  simp only [bnd, doCall, hc]
  rw [hs]; rfl
theorem x_retOo {e : OE} (h : denOE Γ e s = some (.own o, s1)) : exec Γ (.retO e p) s = some (.rt o, s1) := by
  rw [exec, bnd_ok h]; rfl
theorem x_retOv {e : OE} (h : denOE Γ e s = some (.val d, s1)) : exec Γ (.retO e p) s = some (.rt (.leaf d), s1) := by
  rw [exec, bnd_ok h]; rfl
theorem oe_f (h : denF Γ e s = some (ds, s1)) : denOE Γ (.o e) s = some (.own (.fl ds), s1) := by
  rw [denOE, bnd_ok h]; rfl
theorem f_srt {z : D} (h : den Γ e s = some (z, s1)) (hs : srtD z = some (.lst ds)) : denF Γ (.srt p e q) s = some (ds, s1) := by
  rw [denF, bnd_ok h, hs]; rfl
theorem v_srt {z : D} (h : den Γ e s = some (z, s1)) (hs : srtD z = some d) : den Γ (.srt p e q) s = some (d, s1) := by
  rw [den, bnd_ok h, hs]; rfl
theorem v_rev {z : D} {k : Nat} {p1 p2 p3 : Pos} (h : den Γ e s = some (z, s1)) (hs : revD z = some d) : den Γ (.rev e k p1 p2 p3 q) s = some (d, s1) := by
  rw [den, bnd_ok h, hs]; rfl
theorem v_conv {z : D} {b : Bi} (h : den Γ e s = some (z, s1)) (hs : convD b z = some d) : den Γ (.conv b p e q) s = some (d, s1) := by
  rw [den, bnd_ok h, hs]; rfl
theorem v_sne {z w : D} {p1 q1 p2 q2 : Pos} (ha : den Γ a s = some (z, s1)) (hb : den Γ b s1 = some (w, s2)) (h : sneD z w = some d) : den Γ (.sne p1 a q1 p2 b q2 q) s = some (d, s2) := by
  rw [den, bnd_ok ha, bnd_ok hb, h]; rfl
theorem v_att {z : D} {k : Nat} {y : Str} (na : ∀ i z q, a ≠ .bv i z q) (ha : den Γ a s = some (z, s1)) (h : attO Γ.fn k y (.leaf z) = some d) : den Γ (.att a k y p) s = some (d, s1) := by
  rw [den]
  unfold attM
  split
  · exact absurd rfl (na _ _ _)
  · rw [bnd_ok ha, h]; rfl
theorem f_bin {z w : D} (ha : den Γ a s = some (z, s1)) (hb : den Γ b s1 = some (w, s2)) (h : catF z w = some ds) : denF Γ (.bin a .Add b p) s = some (ds, s2) := by
  rw [denF, bnd_ok ha, bnd_ok hb, h]; rfl
theorem f_lst {es : Es} (h : dens Γ es s = some (ds, s1)) (hl : ds.length ≤ 100) : denF Γ (.lst es p) s = some (ds, s1) := by
  rw [denF, bnd_ok h, if_pos (by unfold sizeLine; omega)]; rfl
theorem oe_mv (h : L[i]? = some (.own o)) : denOE Γ (.mv i x p) ⟨L, S⟩ = some (.own o, ⟨L.set i .no, S⟩) := by
  rw [denOE]; simp only [moveM, h]
theorem oes_nil : denOEs Γ [] s = some ([], s) := by rw [denOEs]; rfl
theorem oes_cons {e : OE} {es : List OE} {z : Slot} {zs : List Slot} (h : denOE Γ e s = some (z, s1)) (hs : denOEs Γ es s1 = some (zs, s2)) : denOEs Γ (e :: es) s = some (z :: zs, s2) := by
  rw [denOEs, bnd_ok h, bnd_ok hs]; rfl
theorem oe_dt {es : List OE} {zs : List Slot} {os : List OD} (h : denOEs Γ es s = some (zs, s1)) (hs : slotsO zs = some os) (hl : os.length ≤ 100) : denOE Γ (.dt es k p) s = some (.own (.nt os), s1) := by
  rw [denOE]
  unfold disM
  rw [bnd_ok h]
  simp only [hs]
  rw [if_pos (by unfold sizeLine; omega)]; rfl
theorem oe_dl {es : List OE} {zs : List Slot} {os : List OD} (h : denOEs Γ es s = some (zs, s1)) (hs : slotsO zs = some os) (hl : os.length ≤ 100) : denOE Γ (.dl es p) s = some (.own (.nl os), s1) := by
  rw [denOE]
  unfold disM
  rw [bnd_ok h]
  simp only [hs]
  rw [if_pos (by unfold sizeLine; omega)]; rfl
theorem oe_ife {ea eb : OE} {t : Bool} {r : Option (Slot × St)} (h : den Γ c s = some (.bl t, s1)) (ha : denOE Γ (if t then ea else eb) s1 = r) : denOE Γ (.ife c ea eb p) s = r := by
  rw [denOE, bnd_ok h]
  cases t <;> exact ha
theorem slots_one {z : Slot} (h : o.slot = some z) : slotsO [z] = some [o] := by
  cases o <;> simp [OD.slot] at h <;> subst h <;> simp [slotsO]
theorem x_apo {nm : Nm} {e : OE} {z : Slot} {os0 os os' : List OD} (h0 : L[nm.i]? = some (.own (.nl os0))) (h : denOE Γ e ⟨L, S⟩ = some (z, ⟨L1, S1⟩)) (h1 : L1[nm.i]? = some (.own (.nl os))) (hs : slotsO [z] = some os') (hl : os.length < 100) :
    exec Γ (.apo nm p2 e p3 p) ⟨L, S⟩ = some (.nx, ⟨L1.set nm.i (.own (.nl (os ++ os'))), S1⟩) := by
  rw [exec]
  have e1 : isNl nm.i ⟨L, S⟩ = some ((), ⟨L, S⟩) := by unfold isNl; simp only [h0]
  rw [bnd_ok e1, bnd_ok h]
  unfold apoM
  simp only [h1, hs]
  rw [if_pos (by unfold sizeLine; omega)]
theorem v_nna {kk : Nat} {p1 pk pn : Pos} {neg : Bool} {kn : Nat} {os : List OD} (h : L[j]? = some (.own (.nl os))) (ho : os[k]? = some o) : den Γ (.nna j x p1 k kk pk p2 neg kn pn p3) ⟨L, S⟩ = some (.bl (if neg then !o.isNon else o.isNon), ⟨L, S⟩) := by
  rw [den]
  unfold nnaM peekO
  simp only [h, ho]
theorem x_apa {nm : Nm} {kk kc : Nat} {pk p4 pc : Pos} {cc : Const} {os : List OD} (h : L[nm.i]? = some (.own (.nl os))) (ho : os[k]? = some (.fl ds)) (hl : ds.length < 100) (hc : conD cc = some d) :
    exec Γ (.apa nm k kk pk p2 p3 cc kc pc p4 p) ⟨L, S⟩ = some (.nx, ⟨L.set nm.i (.own (.nl (os.set k (.fl (ds ++ [d]))))), S⟩) := by
  rw [exec, hc]
  simp only [ofO, bnd, ret]
  unfold apaM
  simp only [h, ho]
  rw [if_pos (by unfold sizeLine; omega)]
theorem x_exr {nm : Nm} {es : List D} {L2 : List Slot} (h : L[nm.i]? = some (.own (.fl ds))) (hn : (L.set nm.i .no).all Slot.notOwn = true) (he : den Γ e ⟨L.set nm.i (.val (.lst ds)), S⟩ = some (.lst es, ⟨L2, S1⟩)) (ha : es.all D.atom = true) (hf : S1.all OD.flat = true) (hl : ds.length + es.length ≤ 100) :
    exec Γ (.exr nm p2 e p3 p) ⟨L, S⟩ = some (.nx, ⟨L.set nm.i (.own (.fl (ds ++ es))), S1⟩) := by
  rw [exec]
  unfold exrM
  simp only [h]
  rw [if_pos hn]
  simp only [he]
  rw [if_pos ⟨ha, hf, by unfold sizeLine; omega⟩]
theorem v_cmpB {op : CmpOp} {o' : OD} {w : D} (nb : ∀ i z q, b ≠ .bv i z q) (h1 : peekO s i = some o) (hb : den Γ b s = some (w, s1)) (h2 : peekO s1 i = some o') (h : cmpD op o'.toD w = some d) : den Γ (.cmp (.bv i x q) op b p) s = some (d, s1) := by
  rw [den]
  have e1 : opn (den Γ b) b = den Γ b := by
    unfold opn
    split
    · exact absurd rfl (nb _ _ _)
    · rfl
  rw [e1]
  unfold cmpM
  have e2 : peek i s = some (o.toD, s) := by unfold peek; rw [h1]
  have e3 : peek i s1 = some (o'.toD, s1) := by unfold peek; rw [h2]
  simp only []
  rw [bnd_ok e2, bnd_ok hb, bnd_ok e3, h]; rfl
theorem v_subB {w z : D} (h1 : peekO s i = some o) (hb : den Γ b s = some (w, s1)) (h2 : peekO s1 i = some (.leaf z)) (h : ixD z w = some d) : den Γ (.sub (.bv i x q) b p) s = some (d, s1) := by
  rw [den]
  show subB i _ s = _
  unfold subB
  have e2 : peek i s = some (o.toD, s) := by unfold peek; rw [h1]
  rw [bnd_ok e2, bnd_ok hb]
  simp only [h2, h]; rfl
theorem v_pin {jj : Nat} (h : L[i]? = some (.pin d jj)) : den Γ (.var i x p) ⟨L, S⟩ = some (d, ⟨L, S⟩) := by
  rw [den]; simp only [readVar, h]
theorem v_own (h : L[i]? = some (.own o)) : den Γ (.var i x p) ⟨L, S⟩ = some (o.toD, ⟨L.set i (.val o.toD), S⟩) := by
  rw [den]; simp only [readVar, h]
theorem a_shp {jj : Nat} (h : L[i]? = some (.pin d jj)) (ha : denAs Γ as ⟨L, S⟩ = some (sl, s2)) : denAs Γ (.share i x p as) ⟨L, S⟩ = some (.val d :: sl, s2) := by
  rw [denAs]
  simp only [bnd, h, ha, ret]
theorem x_blk_v {P : List Nat} {ta tb : Ts} (h : L[j]? = some (.val d)) (ha : execs Γ ta ⟨L, S⟩ = some (.nx, s1)) : execs Γ (.blk j P ta tb) ⟨L, S⟩ = execs Γ tb s1 := by
  rw [execs]
  unfold blkM
  simp only [h]
  unfold andThen
  rw [bnd_ok ha]
theorem x_blk_o {P : List Nat} {ta tb : Ts} {L' L2 : List Slot} {S2 : List OD} (h : L[j]? = some (.own o)) (hp : pinL (L.map (dropS S.length)) (S.length + 1) P = some (L', ds)) (ha : execs Γ ta ⟨L'.set j (.pin o.toD S.length), S⟩ = some (.nx, ⟨L2, S2⟩)) (hf : S2.all OD.flat = true) (hS : S2.length ≤ S.length) (hj : isPin S.length L2[j]? = true) :
    execs Γ (.blk j P ta tb) ⟨L, S⟩ = execs Γ tb ⟨(L2.map (endS (S.length + 1) ds)).set j (.own o), S2⟩ := by
  rw [execs]
  unfold blkM
  simp only [h, hp, ha]
  rw [if_pos ⟨hf, hS, hj⟩]
theorem comp1i {elt tt : E} {it : Wk} {sc : Scope} {items : List D} (g : D → D) (pr : D → Bool) (hb : L[i]? = some .no ∨ ∃ d, L[i]? = some (.val d)) (hit : denIt Γ it ⟨L, S⟩ = some (items, ⟨L, S⟩)) (hz : items.length ≤ sizeLine)
    (ht : ∀ v ∈ items, den Γ tt ⟨L.set i (.val v), S⟩ = some (.bl (pr v), ⟨L.set i (.val v), S⟩)) (he : ∀ v ∈ items, den Γ elt ⟨L.set i (.val v), S⟩ = some (g v, ⟨L.set i (.val v), S⟩)) :
    den Γ (.comp elt (.nm i x p) it (.cons tt .nil) sc [(y, i)] q) ⟨L, S⟩ = some (.lst ((items.filter pr).map g), ⟨L, S⟩) := by
  have hi : i < L.length := by
    rcases hb with h | ⟨d, h⟩ <;> exact (List.getElem?_eq_some_iff.mp h).1
  obtain ⟨yss, S', L', rfl, p2, p3, p4⟩ := run_sp (ids := [i]) (t := .nm i x p) (body := bnd (denIfs Γ (.cons tt .nil)) fun c => if c then bnd (den Γ elt) fun d => ret [d] else ret []) (items := items) (fun S' => S' = S) (fun v ys => ys = if pr v then [g v] else []) (L0 := wipeL L [i]) (fun v hv S2 hS => by
    subst hS
    refine ⟨_, _, L.set i (.val v), rfl, rfl, ?_, by simp [wipeL]⟩
    have e1 : setT (.nm i x p) v ⟨wipeL L [i], S2⟩ = some ((), ⟨L.set i (.val v), S2⟩) := by simp [setT, setV, wipeL, hi]
    have e2 : denIfs Γ (.cons tt .nil) ⟨L.set i (.val v), S2⟩ = some (pr v, ⟨L.set i (.val v), S2⟩) := by
      rw [denIfs, bnd_ok (ht v hv)]
      simp only [D.tr, ofO, ret, bnd, denIfs]
      cases pr v <;> rfl
    rw [bnd_ok e1, bnd_ok e2]
    cases hp : pr v
    · rfl
    · simp only [if_true]
      rw [bnd_ok (he v hv)]; rfl) (L := L) rfl rfl
  have hy : yss.flatten = (items.filter pr).map g := by
    clear p3 p4 hit hz ht he
    induction p2 with
    | nil => rfl
    | cons h r ih =>
      rw [List.flatten_cons, ih, h, List.filter_cons]
      split <;> simp
  rw [hy] at p3
  have hz' : ((items.filter pr).map g).length ≤ sizeLine := by
    rw [List.length_map]
    exact Nat.le_trans (List.length_filter_le _ _) hz
  have hs := inScope_sp p3 p4 (back1 hb) hz'
  simp only [den, bnd, hit]
  exact hs
/-- loops: what is left, or a result -/
theorem for_gen {t : Tg} {body : M Fl} (I : List D → St → Prop) (J : OD → St → Prop) (h : ∀ v r s, I (v :: r) s → ∃ s1, setT t v s = some ((), s1) ∧ ((∃ o s2, body s1 = some (.rt o, s2) ∧ J o s2) ∨ ∃ s2, body s1 = some (.nx, s2) ∧ I r s2)) :
    ∀ {items : List D} {s : St}, I items s → (∃ o s', forM t body items s = some (.rt o, s') ∧ J o s') ∨ ∃ s', forM t body items s = some (.nx, s') ∧ I [] s'
  | [], s, hs => .inr ⟨s, rfl, hs⟩
  | v :: items, s, hs => by
    obtain ⟨s1, e1, ⟨o, s2, e2, j2⟩ | ⟨s2, e2, i2⟩⟩ := h v items s hs
    · refine .inl ⟨o, s2, ?_, j2⟩
      rw [forM]
      simp only [bnd, e1, turnEnd, e2, ret]
    · rcases for_gen I J h i2 with ⟨o, s', e3, j3⟩ | ⟨s', e3, i3⟩
      · refine .inl ⟨o, s', ?_, j3⟩
        rw [forM]
        simp only [bnd, e1, turnEnd, e2, e3]
      · refine .inr ⟨s', ?_, i3⟩
        rw [forM]
        simp only [bnd, e1, turnEnd, e2, e3]
theorem for_fold {t : Tg} {body : M Fl} (I : List D → St → Prop) (h : ∀ v r s, I (v :: r) s → ∃ s1 s2, setT t v s = some ((), s1) ∧ body s1 = some (.nx, s2) ∧ I r s2) {items : List D} {s : St} (hs : I items s) : ∃ s', forM t body items s = some (.nx, s') ∧ I [] s' := by
  rcases for_gen I (fun _ _ => False) (fun v r s hv => by
    obtain ⟨s1, s2, e1, e2, e3⟩ := h v r s hv
    exact ⟨s1, e1, .inr ⟨s2, e2, e3⟩⟩) hs with ⟨_, _, _, z⟩ | z
  · exact z.elim
  · exact z
theorem x_for {t : Tg} {it : Wk} {ts : Ts} {items : List D} {r : Option (Fl × St)} (hi : denIt Γ it s = some (items, s1)) (h : forM t (execs Γ ts) items s1 = r) : exec Γ (.for t it ts p) s = r := by
  rw [exec, bnd_ok hi, h]
theorem x_for_fold {t : Tg} {it : Wk} {ts : Ts} {items : List D} (hi : denIt Γ it s = some (items, s1)) (I : List D → St → Prop) (h0 : I items s1) (h : ∀ v r s, I (v :: r) s → ∃ s1 s2, setT t v s = some ((), s1) ∧ execs Γ ts s1 = some (.nx, s2) ∧ I r s2) : ∃ s', exec Γ (.for t it ts p) s = some (.nx, s') ∧ I [] s' := by
  obtain ⟨s', e, i⟩ := for_fold I h h0
  exact ⟨s', x_for hi e, i⟩
theorem x_for_gen {t : Tg} {it : Wk} {ts : Ts} {items : List D} (hi : denIt Γ it s = some (items, s1)) (I : List D → St → Prop) (J : OD → St → Prop) (h0 : I items s1) (h : ∀ v r s, I (v :: r) s → ∃ s1, setT t v s = some ((), s1) ∧ ((∃ o s2, execs Γ ts s1 = some (.rt o, s2) ∧ J o s2) ∨ ∃ s2, execs Γ ts s1 = some (.nx, s2) ∧ I r s2)) :
    (∃ o s', exec Γ (.for t it ts p) s = some (.rt o, s') ∧ J o s') ∨ ∃ s', exec Γ (.for t it ts p) s = some (.nx, s') ∧ I [] s' := by
  rcases for_gen I J h h0 with ⟨o, s', e, i⟩ | ⟨s', e, i⟩
  · exact .inl ⟨o, s', x_for hi e, i⟩
  · exact .inr ⟨s', x_for hi e, i⟩
theorem r_end {tt : T} (h : exec Γ tt s = some (.nx, s1)) : execs Γ (.cons tt .nil) s = some (.nx, s1) := by rw [r_nx h, execs]; rfl
theorem i_e {z : D} {items : List D} (h : den Γ e s = some (z, s1)) (hi : itD z = some items) : denIt Γ (.e e) s = some (items, s1) := by
  rw [denIt, bnd_ok h, hi]; rfl
theorem i_enuL {items : List D} (h : den Γ e s = some (.lst items, s1)) : denIt Γ (.enu e p q) s = some (enumD 0 items, s1) := by
  rw [denIt, bnd_ok h]; rfl
theorem i_enuT {items : List D} (h : den Γ e s = some (.tup items, s1)) : denIt Γ (.enu e p q) s = some (enumD 0 items, s1) := by
  rw [denIt, bnd_ok h]; rfl
theorem v_or_t {e2 : E} {es : Es} (h : den Γ e s = some (.bl true, s1)) : den Γ (.bop .Or e (.cons e2 es) p) s = some (.bl true, s1) := by
  rw [den, denB, bnd_ok h]; rfl
theorem v_or3 {e2 e3 : E} {r : Option (D × St)} (h : den Γ e s = some (.bl false, s1)) (h2 : den Γ e2 s1 = some (.bl false, s2)) (h3 : den Γ e3 s2 = r) : den Γ (.bop .Or e (.cons e2 (.cons e3 .nil)) p) s = r := by
  rw [den, denB, bnd_ok h]
  simp only [D.tr, ofO, bnd, ret]
  rw [if_neg (by decide), denB, bnd_ok h2]
  simp only [D.tr, ofO, bnd, ret]
  rw [if_neg (by decide), denB]
  exact h3
theorem v_or3m {e2 e3 : E} (h : den Γ e s = some (.bl false, s1)) (h2 : den Γ e2 s1 = some (.bl true, s2)) : den Γ (.bop .Or e (.cons e2 (.cons e3 .nil)) p) s = some (.bl true, s2) := by
  rw [den, denB, bnd_ok h]
  simp only [D.tr, ofO, bnd, ret]
  rw [if_neg (by decide), denB, bnd_ok h2]
  rfl
theorem v_and3 {e2 e3 : E} {r : Option (D × St)} (h : den Γ e s = some (.bl true, s1)) (h2 : den Γ e2 s1 = some (.bl true, s2)) (h3 : den Γ e3 s2 = r) : den Γ (.bop .And e (.cons e2 (.cons e3 .nil)) p) s = r := by
  rw [den, denB, bnd_ok h]
  simp only [D.tr, ofO, bnd, ret]
  rw [if_pos trivial, denB, bnd_ok h2]
  simp only [D.tr, ofO, bnd, ret]
  rw [if_pos trivial, denB]
  exact h3
theorem v_and3m {e2 e3 : E} (h : den Γ e s = some (.bl true, s1)) (h2 : den Γ e2 s1 = some (.bl false, s2)) : den Γ (.bop .And e (.cons e2 (.cons e3 .nil)) p) s = some (.bl false, s2) := by
  rw [den, denB, bnd_ok h]
  simp only [D.tr, ofO, bnd, ret]
  rw [if_pos trivial, denB, bnd_ok h2]
  rfl
theorem v_and_ff {e2 : E} {es : Es} (h : den Γ e s = some (.bl false, s1)) : den Γ (.bop .And e (.cons e2 es) p) s = some (.bl false, s1) := by
  rw [den, denB, bnd_ok h]; rfl
end
end Dm

namespace Dm
open PySem L2
/-! ### lists and tuples of numbers -/
abbrev iL (l : List Nat) : List D := l.map fun (x : Nat) => D.int x
def sq (b : Bool) (xs : List D) : D := if b then .tup xs else .lst xs
theorem sq_f {xs : List D} : sq false xs = .lst xs := rfl
theorem sq_t {xs : List D} : sq true xs = .tup xs := rfl
section
variable {b : Bool} {xs : List D} {k : Nat} {d : D}
theorem it_sq : itD (sq b xs) = some xs := by cases b <;> rfl
theorem len_sq : bi1D .len (sq b xs) = some (.int xs.length) := by cases b <;> rfl
theorem ix_sq (h : xs[k]? = some d) : ixD (sq b xs) (.int k) = some d := by
  cases b
  · exact ix_l h
  · exact ix_t h
theorem sl_to_t (h : k ≤ xs.length) : slD (.tup xs) none (some (k : Int)) = some (.tup (xs.take k)) := by
  have := sl_to h
  unfold slD at this ⊢
  simp only [] at this ⊢
  injection this with this
  injection this with this
  rw [this]
theorem sl_from_t (h : k ≤ xs.length) : slD (.tup xs) (some (k : Int)) none = some (.tup (xs.drop k)) := by
  have := sl_from h
  unfold slD at this ⊢
  simp only [] at this ⊢
  injection this with this
  injection this with this
  rw [this]
theorem sl_sq_to (h : k ≤ xs.length) : slD (sq b xs) none (some (k : Int)) = some (sq b (xs.take k)) := by
  cases b
  · exact sl_to h
  · exact sl_to_t h
theorem sl_sq_from (h : k ≤ xs.length) : slD (sq b xs) (some (k : Int)) none = some (sq b (xs.drop k)) := by
  cases b
  · exact sl_from h
  · exact sl_from_t h
theorem i_enu {Γ : Env} {e : E} {p q : Pos} {s s1 : St} (h : den Γ e s = some (sq b xs, s1)) : denIt Γ (.enu e p q) s = some (enumD 0 xs, s1) := by
  cases b
  · exact i_enuL h
  · exact i_enuT h
end
namespace K44
variable {n m : Nat} {S : List OD} {f : Nat → Nat → Nat} {b : Bool}
theorem sp1q (hm : 1 ≤ m) {xs : List D} : cl m 1 [.val (sq b xs)] S = some (.leaf (.bl true), S) := by
  cases b
  · exact call_ok (d := d1) rfl hm rfl (by simp [d1, b1, t1_0, exec, execs, den, dens, denB, denAs, denKs, denIt, denIfs, denEO, denOE, denOEs, denF, bnd, ret, readVar, peek, peekO, peekL, opn_bv, opn_var, opn_con, opn_glo, opn_tup, opn_lst, opn_bin, opn_sub, opn_att, opn_bi1, opn_call, opn_callK, opn_cmp, opn_ss, opn_sl, cmpM, subM, subB, attM, unaM, setSlot, setSlots, setV, setT, setTs, doCall, mutF, tst, andThen, ofO_s, leafD_l, tr_b, env_call, env_fn, env_wf, env_glob, conD, rtM, itD_l, itD_t, r_rt, sq, isiTD, isiD]; rfl)
  · exact call_ok (d := d1) rfl hm rfl (by simp [d1, b1, t1_0, exec, execs, den, dens, denB, denAs, denKs, denIt, denIfs, denEO, denOE, denOEs, denF, bnd, ret, readVar, peek, peekO, peekL, opn_bv, opn_var, opn_con, opn_glo, opn_tup, opn_lst, opn_bin, opn_sub, opn_att, opn_bi1, opn_call, opn_callK, opn_cmp, opn_ss, opn_sl, cmpM, subM, subB, attM, unaM, setSlot, setSlots, setV, setT, setTs, doCall, mutF, tst, andThen, ofO_s, leafD_l, tr_b, env_call, env_fn, env_wf, env_glob, conD, rtM, itD_l, itD_t, r_rt, sq, isiTD, isiD]; rfl)
theorem tab_at (h1 : x < n) : ixD (.tup (tupsL n f)) (.int x) = some (.tup (rowL n (f x))) := ix_t (tupsL_at h1)
theorem row_at {g : Nat → Nat} (h1 : x < n) : ixD (.tup (rowL n g)) (.int x) = some (.int (g x)) := ix_t (rowL_at h1)
theorem enum_iL {l : List Nat} {k : Nat} {d : D} (h : d ∈ enumD k (iL l)) : ∃ (i x : Nat), d = .tup [.int i, .int x] ∧ x ∈ l := by
  obtain ⟨i, d', rfl, hd⟩ := enum_mem h
  obtain ⟨x, hx, rfl⟩ := List.mem_map.mp hd
  exact ⟨i, x, rfl, hx⟩
theorem sp9i (hm : 3 ≤ m) {x : Nat} (h : x < n) : cl m 9 [.val (tabD n f), .val (.int x)] S = some (.leaf (.bl true), S) := by
  rw [sp9 (k := 0) hm gd_int]
  simp [isV, h]
/-! ### want_values -/
theorem sp4 (hm : 4 ≤ m) {l : List Nat} (h0 : l ≠ []) (hl : ∀ x ∈ l, x < n) : cl m 4 [.val (tabD n f), .val (sq b (iL l)), .val (.int 1)] S = some (.leaf .non, S) := by
  let I : List D → St → Prop := fun r s => (∀ d ∈ r, ∃ (i x : Nat), d = .tup [.int i, .int x] ∧ x < n) ∧ ∃ y1 y2, s = ⟨[.val (tabD n f), .val (sq b (iL l)), .val (.int 1), y1, y2], S⟩
  obtain ⟨s', e1, -, y1, y2, rfl⟩ : ∃ s', exec (G (m - 1)) t4_1 ⟨[.val (tabD n f), .val (sq b (iL l)), .val (.int 1), .no, .no], S⟩ = some (.nx, s') ∧ I [] s' :=
    x_for_fold (i_enu (v_var rfl)) I ⟨fun d hd => (enum_iL hd).elim fun i h => h.elim fun x h => ⟨i, x, h.1, hl x h.2⟩, .no, .no, rfl⟩ (fun v r s ⟨hv, y1, y2, e⟩ => by
      subst e
      obtain ⟨i, x, rfl, hx⟩ := hv v List.mem_cons_self
      exact ⟨_, _, rfl, r_end (x_skip (v_notT (v_call (a_shv rfl (a_shv rfl a_nil)) (sp9i (by omega) hx)))), fun d hd => hv d (List.mem_cons_of_mem _ hd), _, _, rfl⟩)
  have hc : cmpD .Lt (.int (iL l).length) (.int 1) = some (.bl false) := by
    have : l.length ≠ 0 := fun z => h0 (List.length_eq_zero_iff.mp z)
    simp [cmpD, cmpI]; omega
  exact call_nx (d := d4) rfl (by omega) rfl ((r_nx (x_skip (v_or_f (v_notT (v_call (a_shv rfl a_nil) (sp1q (by omega)))) (v_cmp (fun _ _ _ z => by cases z) (fun _ _ _ z => by cases z) (v_bi1 (fun _ _ _ z => by cases z) (v_var rfl) len_sq) (v_var rfl) hc)))).trans (r_end e1))
/-! ### want_melting -/
theorem sp5 (hT : Tb n f) (hs : SL n f) (hm : 8 ≤ m) : cl m 5 [.val (tabD n f)] S = some (.leaf .non, S) := by
  have h := sp18 (S := S) hT (m := m - 1) (by omega)
  rw [mB_iff.mpr hs] at h
  exact call_nx (d := d5) rfl (by omega) rfl (r_end (x_skip (v_notT (v_call (a_shv rfl a_nil) h))))
/-! ### joins of many -/
def jl (f : Nat → Nat → Nat) : List Nat → Nat
  | [] => 0
  | x :: r => r.foldl f x
theorem fold_lt (hT : Tb n f) : ∀ {r : List Nat} {x : Nat}, x < n → (∀ y ∈ r, y < n) → r.foldl f x < n
  | [], _, h, _ => h
  | y :: r, x, h, hr => by
    rw [List.foldl_cons]
    exact fold_lt hT (hT.in' _ h _ (hr y List.mem_cons_self)) fun z hz => hr z (List.mem_cons_of_mem _ hz)
theorem jl_lt (hT : Tb n f) : ∀ {l : List Nat}, l ≠ [] → (∀ y ∈ l, y < n) → jl f l < n
  | x :: r, _, h => fold_lt hT (h x List.mem_cons_self) fun z hz => h z (List.mem_cons_of_mem _ hz)
theorem sp8 (hT : Tb n f) (hm : 1 ≤ m) {l : List Nat} (h0 : l ≠ []) (hl : ∀ x ∈ l, x < n) : cl m 8 [.val (tabD n f), .val (sq b (iL l))] S = some (.leaf (.int (jl f l)), S) := by
  obtain ⟨x, r, rfl⟩ := List.exists_cons_of_ne_nil h0
  let I : List D → St → Prop := fun q s => ∃ (z : Nat) (w : List Nat) (y : Slot), q = iL w ∧ z < n ∧ (∀ v ∈ w, v < n) ∧ w.foldl f z = r.foldl f x ∧ s = ⟨[.val (tabD n f), .val (sq b (iL (x :: r))), .val (.int z), y], S⟩
  obtain ⟨s', e1, z, w, y, ew, -, -, ez, rfl⟩ : ∃ s', exec (G (m - 1)) t8_1 ⟨[.val (tabD n f), .val (sq b (iL (x :: r))), .val (.int x), .no], S⟩ = some (.nx, s') ∧ I [] s' :=
    x_for_fold (i_e (v_slD (v_var rfl) (v_con rfl) (sl_sq_from (k := 1) (by simp))) it_sq) I ⟨x, r, .no, rfl, hl x List.mem_cons_self, fun v hv => hl v (List.mem_cons_of_mem _ hv), rfl, rfl⟩ (fun v q s ⟨z, w, y, ew, hz, hw, ef, e⟩ => by
      subst e
      cases w with
      | nil => cases ew
      | cons u w =>
        injection ew with e1 e2
        subst e1 e2
        have hu := hw u List.mem_cons_self
        exact ⟨_, _, rfl, r_end (x_setv (v_sub (fun _ _ _ z => by cases z) (v_sub (fun _ _ _ z => by cases z) (v_att (fun _ _ _ z => by cases z) (v_var rfl) att_own) (v_var rfl) (tab_at hz)) (v_var rfl) (row_at hu)) (by simp)), f z u, w, _, rfl, hT.in' _ hz _ hu, fun v hv => hw v (List.mem_cons_of_mem _ hv), ef, rfl⟩)
  have : w = [] := by cases w with
    | nil => rfl
    | cons => cases ew
  subst this
  have ez : z = r.foldl f x := ez
  subst ez
  exact call_ok (d := d8) rfl (by omega) rfl ((r_nx (x_setv (v_sub (fun _ _ _ z => by cases z) (v_var rfl) (v_con rfl) (ix_sq (k := 0) rfl)) (by first | (simp; done) | (simp; decide)))).trans ((r_nx e1).trans (r_rt (x_ret (v_var rfl)))))
theorem sp31 (hT : Tb n f) (hm : 1 ≤ m) {l : List Nat} (h0 : l ≠ []) (hl : ∀ x ∈ l, x < n) : cl m 31 [.val (rowsD n f), .val (.lst (iL l))] S = some (.leaf (.int (jl f l)), S) := by
  obtain ⟨x, r, rfl⟩ := List.exists_cons_of_ne_nil h0
  let I : List D → St → Prop := fun q s => ∃ (z : Nat) (w : List Nat) (y : Slot), q = iL w ∧ z < n ∧ (∀ v ∈ w, v < n) ∧ w.foldl f z = r.foldl f x ∧ s = ⟨[.val (rowsD n f), .val (.lst (iL (x :: r))), .val (.int z), y], S⟩
  obtain ⟨s', e1, z, w, y, ew, -, -, ez, rfl⟩ : ∃ s', exec (G (m - 1)) t31_1 ⟨[.val (rowsD n f), .val (.lst (iL (x :: r))), .val (.int x), .no], S⟩ = some (.nx, s') ∧ I [] s' :=
    x_for_fold (i_e (v_slD (v_var rfl) (v_con rfl) (sl_from (k := 1) (by simp))) rfl) I ⟨x, r, .no, rfl, hl x List.mem_cons_self, fun v hv => hl v (List.mem_cons_of_mem _ hv), rfl, rfl⟩ (fun v q s ⟨z, w, y, ew, hz, hw, ef, e⟩ => by
      subst e
      cases w with
      | nil => cases ew
      | cons u w =>
        injection ew with e1 e2
        subst e1 e2
        have hu := hw u List.mem_cons_self
        exact ⟨_, _, rfl, r_end (x_setv (v_sub (fun _ _ _ z => by cases z) (v_sub (fun _ _ _ z => by cases z) (v_var rfl) (v_var rfl) (rx hT hz)) (v_var rfl) (ry hu)) (by simp)), f z u, w, _, rfl, hT.in' _ hz _ hu, fun v hv => hw v (List.mem_cons_of_mem _ hv), ef, rfl⟩)
  have : w = [] := by cases w with
    | nil => rfl
    | cons => cases ew
  subst this
  have ez : z = r.foldl f x := ez
  subst ez
  exact call_ok (d := d31) rfl (by omega) rfl ((r_nx (x_setv (v_sub (fun _ _ _ z => by cases z) (v_var rfl) (v_con rfl) (ix_l (k := 0) rfl)) (by first | (simp; done) | (simp; decide)))).trans ((r_nx e1).trans (r_rt (x_ret (v_var rfl)))))
theorem sp10 (hm : 1 ≤ m) {x y : Nat} (hx : x < n) (hy : y < n) : cl m 10 [.val (tabD n f), .val (.int x), .val (.int y)] S = some (.leaf (.bl (f x y == y)), S) :=
  call_ok (d := d10) rfl (by omega) rfl (r_rt (x_ret (v_cmp (fun _ _ _ z => by cases z) (fun _ _ _ z => by cases z) (v_sub (fun _ _ _ z => by cases z) (v_sub (fun _ _ _ z => by cases z) (v_att (fun _ _ _ z => by cases z) (v_var rfl) att_own) (v_var rfl) (tab_at hx)) (v_var rfl) (row_at hy)) (v_var rfl) eq_nat)))
def cl0 (n : Nat) (f : Nat → Nat → Nat) : Nat := jl f (List.range n)
theorem range_ne (hT : Tb n f) : List.range n ≠ [] := fun z => by
  have := congrArg List.length z
  rw [List.length_range] at this
  have := hT.pos
  simp at *; omega
theorem cl0_lt (hT : Tb n f) : cl0 n f < n := jl_lt hT (range_ne hT) fun y hy => List.mem_range.mp hy
theorem sp12 (hT : Tb n f) (hm : 3 ≤ m) : cl m 12 [.val (tabD n f)] S = some (.leaf (.int (cl0 n f)), S) :=
  call_ok (d := d12) rfl (by omega) rfl (r_rt (x_ret (v_call (a_shv rfl (a_val (v_lrng (v_lenO (v_var rfl) hT.most (sp6 (by omega))) (lrng_ok hT.most)) a_nil)) (sp8 (b := false) hT (by omega) (range_ne hT) fun y hy => List.mem_range.mp hy))))
/-! ### want_thresholds -/
theorem in_ints {x : Nat} {l : List Nat} (b : Bool) : cmpD .In (.int x) (sq b (iL l)) = some (.bl (decide (x ∈ l))) := by
  have h1 : SeqAt.shaped (D.int x).py = true := (gd_int (k := 0)).shaped (by omega)
  have h2 : SeqAt.shaped (D.lst (iL l)).py = true := (gd_lst (k := 0) fun d hd => by obtain ⟨y, _, rfl⟩ := List.mem_map.mp hd; exact gd_int).shaped (by omega)
  have h3 : SeqAt.shaped (D.tup (iL l)).py = true := (gd_tup (k := 0) fun d hd => by obtain ⟨y, _, rfl⟩ := List.mem_map.mp hd; exact gd_int).shaped (by omega)
  have e : ((iL l).any fun z => PyData.eqv z.py (D.int x).py) = decide (x ∈ l) := by
    rw [Bool.eq_iff_iff, List.any_eq_true, decide_eq_true_iff]
    constructor
    · rintro ⟨d, hd, e⟩
      obtain ⟨y, hy, rfl⟩ := List.mem_map.mp hd
      have : (y : Int) = x := by simpa [D.py, PyData.eqv] using e
      have : y = x := by omega
      subst this; exact hy
    · intro h
      exact ⟨.int x, List.mem_map.mpr ⟨x, h, rfl⟩, by simp [D.py, PyData.eqv]⟩
  cases b
  · show (inD _ _).map _ = _
    unfold inD
    rw [h1, h2, e]; rfl
  · show (inTD _ _).map _ = _
    unfold inTD
    rw [h1, h3, e]; rfl
theorem enum_iL' : ∀ {l pre : List Nat} {d : D}, d ∈ enumD pre.length (iL l) → ∃ (p' : List Nat) (x : Nat) (r : List Nat), d = .tup [.int p'.length, .int x] ∧ pre ++ l = p' ++ x :: r
  | [], _, _, h => by simp [enumD] at h
  | y :: l, pre, d, h => by
    rw [iL, List.map_cons, enumD] at h
    rcases List.mem_cons.mp h with rfl | h
    · exact ⟨pre, y, l, rfl, rfl⟩
    · obtain ⟨p', x, r, h1, h2⟩ := enum_iL' (pre := pre ++ [y]) (l := l) (by rw [List.length_append]; exact h)
      exact ⟨p', x, r, h1, by rw [← h2]; simp⟩
theorem iL_take {l : List Nat} {k : Nat} : (iL l).take k = iL (l.take k) := List.map_take.symm
theorem sp13 (hm : 4 ≤ m) {l : List Nat} (hd : l.Nodup) (hl : ∀ x ∈ l, x < n) : cl m 13 [.val (tabD n f), .val (sq b (iL l))] S = some (.leaf .non, S) := by
  let I : List D → St → Prop := fun q s => (∀ d ∈ q, ∃ (p' : List Nat) (x : Nat) (r : List Nat), d = .tup [.int p'.length, .int x] ∧ l = p' ++ x :: r) ∧ ∃ y1 y2, s = ⟨[.val (tabD n f), .val (sq b (iL l)), y1, y2], S⟩
  obtain ⟨s', e1, -, y1, y2, rfl⟩ : ∃ s', exec (G (m - 1)) t13_1 ⟨[.val (tabD n f), .val (sq b (iL l)), .no, .no], S⟩ = some (.nx, s') ∧ I [] s' :=
    x_for_fold (i_enu (v_var rfl)) I ⟨fun d hd => enum_iL' (pre := []) hd, .no, .no, rfl⟩ (fun v r s ⟨hv, y1, y2, e⟩ => by
      subst e
      obtain ⟨p', x, r', rfl, hx⟩ := hv v List.mem_cons_self
      have hin := in_ints (x := x) (l := p') b
      have hnot : x ∉ p' := fun z => by
        rw [hx] at hd
        exact (List.nodup_append.mp hd).2.2 x z x List.mem_cons_self rfl
      rw [decide_eq_false hnot] at hin
      have hk : p'.length ≤ (iL l).length := by rw [hx]; simp
      have ht : (iL l).take p'.length = iL p' := by rw [iL_take, hx, List.take_left' rfl]
      have hs := sl_sq_to (b := b) hk
      rw [ht] at hs
      exact ⟨_, _, rfl, r_end (x_skip (v_or_f (v_notT (v_call (a_shv rfl (a_shv rfl a_nil)) (sp9i (by omega) (hl x (by rw [hx]; simp))))) (v_cmp (fun _ _ _ z => by cases z) (fun _ _ _ z => by cases z) (v_var rfl) (v_slU (v_var rfl) (v_var rfl) hs) hin))), fun d hd => hv d (List.mem_cons_of_mem _ hd), _, _, rfl⟩)
  exact call_nx (d := d13) rfl (by omega) rfl ((r_nx (x_skip (v_notT (v_call (a_shv rfl a_nil) (sp1q (by omega)))))).trans (r_end e1))
end K44
end Dm

namespace Dm
open PySem L2
namespace K44
variable {n m : Nat} {S : List OD} {f : Nat → Nat → Nat} {b c : Bool} {th l : List Nat}
/-! ### what is read -/
def wiN (f : Nat → Nat → Nat) (th : List Nat) (s : Nat) : List Int := srtI ((th.filter fun v => f v s == s).map fun (x : Nat) => (x : Int))
def wi (f : Nat → Nat → Nat) (th : List Nat) (s : Nat) : List D := (wiN f th s).map D.int
def rdG (f : Nat → Nat → Nat) (th : List Nat) : Nat → List Nat → Option (List Int)
  | _, [] => none
  | h, v :: r => if (wiN f th (f h v)).isEmpty then rdG f th (f h v) r else some (wiN f th (f h v))
def rd (f : Nat → Nat → Nat) (th : List Nat) : List Nat → Option (List Int)
  | [] => none
  | x :: r => rdG f th x (x :: r)
def rdD : Option (List Int) → D
  | none => .non
  | some ds => .lst (ds.map D.int)
def rdO : Option (List Int) → OD
  | none => .leaf .non
  | some ds => .fl (ds.map D.int)
theorem rdO_toD {r : Option (List Int)} : (rdO r).toD = rdD r := by cases r <;> simp [rdO, rdD, OD.toD]
theorem allI_iL : ∀ {l : List Nat}, allI (iL l) = some (l.map fun (x : Nat) => (x : Int))
  | [] => rfl
  | x :: l => by
    show allI (.int x :: iL l) = _
    rw [allI, allI_iL]; rfl
theorem srt_iL : srtD (.lst (iL l)) = some (.lst ((srtI (l.map fun (x : Nat) => (x : Int))).map D.int)) := by
  unfold srtD
  simp only [allI_iL]
theorem filt_iL {q : Nat → Bool} : ∀ {l : List Nat}, ((iL l).filter fun d => q (num d)).map id = iL (l.filter q)
  | [] => rfl
  | x :: l => by
    have ih := filt_iL (q := q) (l := l)
    show ((D.int x :: iL l).filter _).map id = _
    have e : num (.int (x : Int)) = x := by simp [num]
    rw [List.filter_cons, List.filter_cons, e]
    split
    · rw [List.map_cons, ih]; rfl
    · exact ih
theorem wi_ne {s : Nat} : cmpD .NotEq (.lst (wi f th s)) (.lst []) = some (.bl (!(wiN f th s).isEmpty)) := by
  have := eq_nil (k := 0) (ds := wi f th s) (fun d hd => by obtain ⟨y, _, rfl⟩ := List.mem_map.mp hd; exact gd_int) (by omega)
  unfold cmpD
  simp only [this]
  unfold wi
  rw [List.isEmpty_map]
  rfl
theorem iL_len : (iL l).length = l.length := List.length_map _
/-- the law's own reading -/
theorem sp32 (hT : Tb n f) (hm : 1 ≤ m) (ht : ∀ x ∈ th, x < n) (hth : th.length ≤ 10) (h0 : l ≠ []) (hl : ∀ x ∈ l, x < n) : cl m 32 [.val (rowsD n f), .val (.lst (iL th)), .val (.lst (iL l))] S = some (.leaf (rdD (rd f th l)), S) := by
  obtain ⟨x, r, rfl⟩ := List.exists_cons_of_ne_nil h0
  let I : List D → St → Prop := fun q s => ∃ (h : Nat) (w : List Nat) (y4 y5 : Slot), q = iL w ∧ h < n ∧ (∀ v ∈ w, v < n) ∧ rdG f th h w = rd f th (x :: r) ∧ s = ⟨[.val (rowsD n f), .val (.lst (iL th)), .val (.lst (iL (x :: r))), .val (.int h), y4, y5, .no], S⟩
  let J : OD → St → Prop := fun o s => ∃ ds L, rd f th (x :: r) = some ds ∧ o = .leaf (.lst (ds.map D.int)) ∧ s = ⟨L, S⟩
  have key : (∃ o s', exec (G (m - 1)) t32_1 ⟨[.val (rowsD n f), .val (.lst (iL th)), .val (.lst (iL (x :: r))), .val (.int x), .no, .no, .no], S⟩ = some (.rt o, s') ∧ J o s') ∨ ∃ s', exec (G (m - 1)) t32_1 ⟨[.val (rowsD n f), .val (.lst (iL th)), .val (.lst (iL (x :: r))), .val (.int x), .no, .no, .no], S⟩ = some (.nx, s') ∧ I [] s' :=
    x_for_gen (i_e (v_var rfl) rfl) I J ⟨x, x :: r, .no, .no, rfl, hl x List.mem_cons_self, hl, rfl, rfl⟩ (fun v q s ⟨h, w, y4, y5, ew, hh, hw, er, e⟩ => by
      subst e
      cases w with
      | nil => cases ew
      | cons u w =>
        injection ew with e1 e2
        subst e1 e2
        have hu := hw u List.mem_cons_self
        have hf := hT.in' _ hh _ hu
        have g1 : exec (G (m - 1)) u32_0 ⟨[.val (rowsD n f), .val (.lst (iL th)), .val (.lst (iL (x :: r))), .val (.int h), .val (.int u), y5, .no], S⟩ = some (.nx, ⟨[.val (rowsD n f), .val (.lst (iL th)), .val (.lst (iL (x :: r))), .val (.int (f h u)), .val (.int u), y5, .no], S⟩) :=
          x_setv (v_sub (fun _ _ _ z => by cases z) (v_sub (fun _ _ _ z => by cases z) (v_var rfl) (v_var rfl) (rx hT hh)) (v_var rfl) (ry hu)) (by first | (simp; done) | (simp; decide))
        have gc : den (G (m - 1)) c32_0 ⟨[.val (rowsD n f), .val (.lst (iL th)), .val (.lst (iL (x :: r))), .val (.int (f h u)), .val (.int u), y5, .no], S⟩ = some (.lst (iL (th.filter fun v => f v (f h u) == f h u)), ⟨[.val (rowsD n f), .val (.lst (iL th)), .val (.lst (iL (x :: r))), .val (.int (f h u)), .val (.int u), y5, .no], S⟩) := by
          rw [← filt_iL]
          exact comp1i id (fun d => f (num d) (f h u) == f h u) (.inl rfl) (i_e (v_var rfl) rfl) (by rw [iL_len]; unfold sizeLine; omega) (fun d hd => by
            obtain ⟨z, hz, rfl⟩ := List.mem_map.mp hd
            have e : num (.int (z : Int)) = z := by simp [num]
            rw [e]
            exact v_cmp (fun _ _ _ z => by cases z) (fun _ _ _ z => by cases z) (v_sub (fun _ _ _ z => by cases z) (v_sub (fun _ _ _ z => by cases z) (v_var rfl) (v_var rfl) (rx hT (ht z hz))) (v_var rfl) (ry hf)) (v_var rfl) eq_nat) (fun d hd => v_var rfl)
        have g2 : exec (G (m - 1)) u32_1 ⟨[.val (rowsD n f), .val (.lst (iL th)), .val (.lst (iL (x :: r))), .val (.int (f h u)), .val (.int u), y5, .no], S⟩ = some (.nx, ⟨[.val (rowsD n f), .val (.lst (iL th)), .val (.lst (iL (x :: r))), .val (.int (f h u)), .val (.int u), .val (.lst (wi f th (f h u))), .no], S⟩) :=
          x_setv (v_srt gc srt_iL) (by first | (simp; done) | (simp; decide))
        refine ⟨_, rfl, ?_⟩
        rw [rdG] at er
        have hq := wi_ne (f := f) (th := th) (s := f h u)
        cases hb : (wiN f th (f h u)).isEmpty
        · rw [hb] at er hq
          simp only [Bool.false_eq_true, if_false] at er
          exact .inl ⟨_, _, (r_nx g1).trans ((r_nx g2).trans (r_rt (x_iff_t (v_cmp (fun _ _ _ z => by cases z) (fun _ _ _ z => by cases z) (v_var rfl) (v_lst e_nil (by simp)) hq) (r_rt (x_ret (v_var rfl)))))), _, _, er.symm, rfl, rfl⟩
        · rw [hb] at er hq
          simp only [if_true] at er
          exact .inr ⟨_, (r_nx g1).trans ((r_nx g2).trans (r_end (x_skip (v_cmp (fun _ _ _ z => by cases z) (fun _ _ _ z => by cases z) (v_var rfl) (v_lst e_nil (by simp)) hq)))), f h u, w, _, _, rfl, hf, fun v hv => hw v (List.mem_cons_of_mem _ hv), er, rfl⟩)
  have g0 : exec (G (m - 1)) t32_0 ⟨[.val (rowsD n f), .val (.lst (iL th)), .val (.lst (iL (x :: r))), .no, .no, .no, .no], S⟩ = some (.nx, ⟨[.val (rowsD n f), .val (.lst (iL th)), .val (.lst (iL (x :: r))), .val (.int x), .no, .no, .no], S⟩) :=
    x_setv (v_sub (fun _ _ _ z => by cases z) (v_var rfl) (v_con rfl) (ix_l (k := 0) rfl)) (by first | (simp; done) | (simp; decide))
  rcases key with ⟨o, s', e1, ds, L, er, rfl, rfl⟩ | ⟨s', e1, h, w, y4, y5, ew, -, -, er, rfl⟩
  · rw [er]
    exact call_ok (d := d32) rfl (by omega) rfl ((r_nx g0).trans (r_rt e1))
  · have : w = [] := by cases w with
      | nil => rfl
      | cons => cases ew
    subst this
    rw [← er]
    exact call_ok (d := d32) rfl (by omega) rfl ((r_nx g0).trans ((r_nx e1).trans (r_rt (x_ret (v_con rfl)))))
/-! ### the program's reading -/
def szs : Nat → List Nat → List D
  | _, [] => []
  | k, _ :: r => .int ((k + 1 : Nat) : Int) :: szs (k + 1) r
theorem szs_eq : ∀ {l : List Nat} {k : Nat}, szs k l = (List.range l.length).map fun (i : Nat) => D.int ((k + 1 + i : Nat) : Int)
  | [], _ => rfl
  | x :: l, k => by
    rw [szs, szs_eq, List.length_cons, List.range_succ_eq_map, List.map_cons, List.map_map]
    congr 1
    refine List.map_congr_left fun i _ => ?_
    simp only [Function.comp]
    congr 2
    omega
theorem rng_szs : rangeD 1 ((l.length : Int) + 1) = szs 0 l := by
  unfold rangeD
  rw [szs_eq]
  have : ((l.length : Int) + 1 - 1).toNat = l.length := by omega
  rw [this]
  refine List.map_congr_left fun i _ => ?_
  congr 1
theorem i_rng2 {Γ : Env} {a e : E} {p q : Pos} {s s1 s2 : St} (ha : den Γ a s = some (.int 1, s1)) (he : den Γ e s1 = some (.int ((l.length : Int) + 1), s2)) (h : l.length < 1000) : denIt Γ (.rng2 a e p q) s = some (szs 0 l, s2) := by
  rw [denIt, bnd_ok ha, bnd_ok he]
  simp only []
  rw [if_pos (by omega), rng_szs]; rfl
theorem jl_snoc : ∀ {pre : List Nat} {v : Nat}, pre ≠ [] → jl f (pre ++ [v]) = f (jl f pre) v
  | x :: r, v, _ => by
    show (r ++ [v]).foldl f x = _
    rw [List.foldl_append]; rfl
theorem sp15 (hT : Tb n f) (hs : SL n f) (hm : 2 ≤ m) (ht : ∀ x ∈ th, x < n) (hth : th.length ≤ 10) (h0 : l ≠ []) (hll : l.length < 100) (hl : ∀ x ∈ l, x < n) : cl m 15 [.val (tabD n f), .val (sq b (iL th)), .val (sq c (iL l))] S = some (rdO (rd f th l), S) := by
  obtain ⟨x, r, hx⟩ := List.exists_cons_of_ne_nil h0
  let I : List D → St → Prop := fun q s => ∃ (h : Nat) (pre w : List Nat) (y3 y4 y5 : Slot), l = pre ++ w ∧ q = szs pre.length w ∧ (∀ v r', w = v :: r' → f h v = jl f (pre ++ [v])) ∧ rdG f th h w = rd f th l ∧ s = ⟨[.val (tabD n f), .val (sq b (iL th)), .val (sq c (iL l)), y3, y4, y5, .no], S⟩
  let J : OD → St → Prop := fun o s => ∃ ds L, rd f th l = some ds ∧ o = .fl (ds.map D.int) ∧ s = ⟨L, S⟩
  have hlen : bi1D .len (sq c (iL l)) = some (.int l.length) := by rw [len_sq, iL_len]
  have key : (∃ o s', exec (G (m - 1)) t15_0 ⟨[.val (tabD n f), .val (sq b (iL th)), .val (sq c (iL l)), .no, .no, .no, .no], S⟩ = some (.rt o, s') ∧ J o s') ∨ ∃ s', exec (G (m - 1)) t15_0 ⟨[.val (tabD n f), .val (sq b (iL th)), .val (sq c (iL l)), .no, .no, .no, .no], S⟩ = some (.nx, s') ∧ I [] s' :=
    x_for_gen (i_rng2 (v_con rfl) (v_bin (v_bi1 (fun _ _ _ z => by cases z) (v_var rfl) hlen) (v_con rfl) bAdd) (by omega)) I J ⟨x, [], l, .no, .no, .no, rfl, rfl, fun v r' e => by
        rw [hx] at e
        injection e with e1 e2
        subst e1
        exact hs.idem x (hl x (by rw [hx]; simp)), by rw [hx]; rfl, rfl⟩ (fun v q s ⟨h, pre, w, y3, y4, y5, el, eq, hf, er, e⟩ => by
      subst e
      cases w with
      | nil => cases eq
      | cons u w =>
        rw [szs] at eq
        injection eq with e1 e2
        subst e1 e2
        have hv : ∀ z ∈ pre ++ [u], z < n := fun z hz => hl z (by
          rw [el]
          rcases List.mem_append.mp hz with h | h
          · exact List.mem_append_left _ h
          · exact List.mem_append_right _ (by rw [List.mem_singleton] at h; rw [h]; simp))
        have hj := jl_lt hT (l := pre ++ [u]) (by simp) hv
        have hfu := hf u w rfl
        have hk : pre.length + 1 ≤ (iL l).length := by rw [iL_len, el]; simp
        have hsl := sl_sq_to (b := c) hk
        have htk : (iL l).take (pre.length + 1) = iL (pre ++ [u]) := by
          rw [iL_take, el]
          congr 1
          rw [List.take_append, List.take_of_length_le (by omega)]
          simp
        rw [htk] at hsl
        rw [rdG, hfu] at er
        generalize hgg : jl f (pre ++ [u]) = g at hj hfu er
        have ej := sp8 (S := S) (b := c) hT (m := m - 1) (by omega) (l := pre ++ [u]) (by simp) hv
        rw [hgg] at ej
        have g1 : exec (G (m - 1)) u15_0 ⟨[.val (tabD n f), .val (sq b (iL th)), .val (sq c (iL l)), .val (.int ((pre.length + 1 : Nat) : Int)), y4, y5, .no], S⟩ = some (.nx, ⟨[.val (tabD n f), .val (sq b (iL th)), .val (sq c (iL l)), .val (.int ((pre.length + 1 : Nat) : Int)), .val (.int g), y5, .no], S⟩) :=
          x_setv (v_call (a_shv rfl (a_val (v_slU (v_var rfl) (v_var rfl) hsl) a_nil)) ej) (by first | (simp; done) | (simp; decide))
        have gc : den (G (m - 1)) c15_0 ⟨[.val (tabD n f), .val (sq b (iL th)), .val (sq c (iL l)), .val (.int ((pre.length + 1 : Nat) : Int)), .val (.int g), y5, .no], S⟩ = some (.lst (iL (th.filter fun v => f v g == g)), ⟨[.val (tabD n f), .val (sq b (iL th)), .val (sq c (iL l)), .val (.int ((pre.length + 1 : Nat) : Int)), .val (.int g), y5, .no], S⟩) := by
          rw [← filt_iL]
          exact comp1i id (fun d => f (num d) g == g) (.inl rfl) (i_e (v_var rfl) it_sq) (by rw [iL_len]; unfold sizeLine; omega) (fun d hd => by
            obtain ⟨z, hz, rfl⟩ := List.mem_map.mp hd
            have e : num (.int (z : Int)) = z := by simp [num]
            rw [e]
            exact v_call (a_shv rfl (a_shv rfl (a_shv rfl a_nil))) (sp10 (by omega) (ht z hz) hj)) (fun d hd => v_var rfl)
        have g2 : exec (G (m - 1)) u15_1 ⟨[.val (tabD n f), .val (sq b (iL th)), .val (sq c (iL l)), .val (.int ((pre.length + 1 : Nat) : Int)), .val (.int g), y5, .no], S⟩ = some (.nx, ⟨[.val (tabD n f), .val (sq b (iL th)), .val (sq c (iL l)), .val (.int ((pre.length + 1 : Nat) : Int)), .val (.int g), .own (.fl (wi f th g)), .no], S⟩) :=
          x_set (oe_f (f_srt gc srt_iL)) (by first | (simp; done) | (simp; decide))
        refine ⟨_, rfl, ?_⟩
        have hq := wi_ne (f := f) (th := th) (s := g)
        cases hb : (wiN f th g).isEmpty
        · rw [hb] at er hq
          simp only [Bool.false_eq_true, if_false] at er
          exact .inl ⟨_, _, (r_nx g1).trans ((r_nx g2).trans (r_rt (x_iff_t (v_cmpB (fun _ _ _ z => by cases z) rfl (v_lst e_nil (by simp)) rfl hq) (r_rt (x_retOo (oe_mv rfl)))))), _, _, er.symm, rfl, rfl⟩
        · rw [hb] at er hq
          simp only [if_true] at er
          exact .inr ⟨_, (r_nx g1).trans ((r_nx g2).trans (r_end (x_skip (v_cmpB (fun _ _ _ z => by cases z) rfl (v_lst e_nil (by simp)) rfl hq)))), g, pre ++ [u], w, _, _, _, by rw [el]; simp, by rw [List.length_append]; rfl, fun v r' _ => by rw [jl_snoc (by simp), hgg], er, rfl⟩)
  rcases key with ⟨o, s', e1, ds, L, er, rfl, rfl⟩ | ⟨s', e1, h, pre, w, y3, y4, y5, el, eq, -, er, rfl⟩
  · rw [er]
    exact call_ok (d := d15) rfl (by omega) rfl (r_rt e1)
  · have : w = [] := by cases w with
      | nil => rfl
      | cons => cases eq
    subst this
    rw [← er]
    exact call_ok (d := d15) rfl (by omega) rfl ((r_nx e1).trans (r_rt (x_retOv (oe_v (v_con rfl)))))
theorem sp19 (hT : Tb n f) (hs : SL n f) (hm : 9 ≤ m) (hd : th.Nodup) (ht : ∀ x ∈ th, x < n) (hth : th.length ≤ 10) (h0 : l ≠ []) (hll : l.length < 100) (hl : ∀ x ∈ l, x < n) : cl m 19 [.val (tabD n f), .val (sq b (iL th)), .val (sq c (iL l))] S = some (rdO (rd f th l), S) := by
  have e := sp15 (S := S) (b := b) (c := c) hT hs (m := m - 1) (by omega) ht hth h0 hll hl
  have g : execs (G (m - 1)) (.cons t19_3 .nil) ⟨[.val (tabD n f), .val (sq b (iL th)), .val (sq c (iL l))], S⟩ = some (.rt (rdO (rd f th l)), ⟨[.val (tabD n f), .val (sq b (iL th)), .val (sq c (iL l))], S⟩) := by
    cases hr : rd f th l with
    | none =>
      rw [hr] at e
      exact r_rt (x_retOv (c_call (a_shv rfl (a_shv rfl (a_shv rfl a_nil))) e rfl))
    | some ds =>
      rw [hr] at e
      exact r_rt (x_retOo (c_call (a_shv rfl (a_shv rfl (a_shv rfl a_nil))) e rfl))
  exact call_ok (d := d19) rfl (by omega) rfl ((r_nx (x_exp (v_call (a_shv rfl a_nil) (sp5 hT hs (by omega))))).trans ((r_nx (x_exp (v_call (a_shv rfl (a_shv rfl a_nil)) (sp13 (by omega) hd ht)))).trans ((r_nx (x_exp (v_call (a_shv rfl (a_shv rfl (a_val (v_con rfl) a_nil))) (sp4 (by omega) h0 hl)))).trans g)))
end K44
end Dm

namespace Dm
open PySem L2
namespace K44
variable {n m : Nat} {S : List OD} {f : Nat → Nat → Nat} {b c : Bool} {th l : List Nat}
/-! ### firm thresholds -/
def Fm (f : Nat → Nat → Nat) (c : Nat) (th : List Nat) : Prop := ∀ a ∈ th, ∀ b ∈ th, a ≠ b → f a b = c
instance {f : Nat → Nat → Nat} {c : Nat} {th : List Nat} : Decidable (Fm f c th) := by unfold Fm; infer_instance
def fmB (f : Nat → Nat → Nat) (c : Nat) (th : List Nat) : Bool := decide (Fm f c th)
theorem pw_fm {c : Nat} (hs : SL n f) : ∀ {th : List Nat}, (∀ x ∈ th, x < n) → th.Pairwise (fun y x => f x y = c) → Fm f c th
  | [], _, _ => fun a ha => by cases ha
  | x :: th, hl, h => by
    obtain ⟨h1, h2⟩ := List.pairwise_cons.mp h
    have ih := pw_fm hs (th := th) (fun y hy => hl y (List.mem_cons_of_mem _ hy)) h2
    intro a ha b hb hab
    rcases List.mem_cons.mp ha with rfl | ha' <;> rcases List.mem_cons.mp hb with rfl | hb'
    · exact absurd rfl hab
    · rw [hs.comm _ _ (hl _ ha) (hl _ hb)]; exact h1 _ hb'
    · exact h1 _ ha'
    · exact ih a ha' b hb' hab
theorem fm_pw {c : Nat} (hd : th.Nodup) (h : Fm f c th) : th.Pairwise (fun y x => f x y = c) :=
  List.Pairwise.imp_of_mem (fun {a b} ha hb hne => h b hb a ha (Ne.symm hne)) hd
theorem fm_rev {c : Nat} : Fm f c th.reverse ↔ Fm f c th := by simp [Fm]
theorem sp20 (hT : Tb n f) (hs : SL n f) (hm : 5 ≤ m) (hd : th.Nodup) (ht : ∀ x ∈ th, x < n) : ∃ o, cl m 20 [.val (tabD n f), .val (sq b (iL th))] S = some (.leaf o, S) ∧
    ((o = .non ∧ Fm f (cl0 n f) th) ∨ ∃ (x y : Nat), o = .tup [.int x, .int y] ∧ x ∈ th ∧ y ∈ th ∧ x ≠ y ∧ f x y ≠ cl0 n f) := by
  let I : List D → St → Prop := fun q s => ∃ (pre w : List Nat) (y3 y4 y5 : Slot), th = pre ++ w ∧ q = enumD pre.length (iL w) ∧ pre.Pairwise (fun y x => f x y = cl0 n f) ∧ s = ⟨[.val (tabD n f), .val (sq b (iL th)), .val (.int (cl0 n f)), y3, y4, y5], S⟩
  let J : OD → St → Prop := fun o s => ∃ (x y : Nat) (L : List Slot), o = .leaf (.tup [.int x, .int y]) ∧ x ∈ th ∧ y ∈ th ∧ x ≠ y ∧ f x y ≠ cl0 n f ∧ s = ⟨L, S⟩
  have key : (∃ o s', exec (G (m - 1)) t20_1 ⟨[.val (tabD n f), .val (sq b (iL th)), .val (.int (cl0 n f)), .no, .no, .no], S⟩ = some (.rt o, s') ∧ J o s') ∨ ∃ s', exec (G (m - 1)) t20_1 ⟨[.val (tabD n f), .val (sq b (iL th)), .val (.int (cl0 n f)), .no, .no, .no], S⟩ = some (.nx, s') ∧ I [] s' :=
    x_for_gen (i_enu (v_var rfl)) I J ⟨[], th, .no, .no, .no, rfl, rfl, .nil, rfl⟩ (fun v q s ⟨pre, w, y3, y4, y5, el, eq, hp, e⟩ => by
      subst e
      cases w with
      | nil => cases eq
      | cons x w =>
        rw [iL, List.map_cons, enumD] at eq
        injection eq with e1 e2
        subst e1 e2
        have hx : x ∈ th := by rw [el]; simp
        have hpre : ∀ y ∈ pre, y ∈ th := fun y hy => by rw [el]; exact List.mem_append_left _ hy
        have hne : ∀ y ∈ pre, x ≠ y := fun y hy e => by
          rw [el] at hd
          exact (List.nodup_append.mp hd).2.2 y hy x List.mem_cons_self e.symm
        let I2 : List D → St → Prop := fun q s => ∃ (w : List Nat) (y5 : Slot), q = iL w ∧ (∀ v ∈ w, v ∈ pre) ∧ (∀ v ∈ pre, v ∈ w ∨ f x v = cl0 n f) ∧ s = ⟨[.val (tabD n f), .val (sq b (iL th)), .val (.int (cl0 n f)), .val (.int pre.length), .val (.int x), y5], S⟩
        have hsl := sl_sq_to (b := b) (xs := iL th) (k := pre.length) (by rw [iL_len, el]; simp)
        have htk : (iL th).take pre.length = iL pre := by rw [iL_take, el, List.take_left' rfl]
        rw [htk] at hsl
        have key2 : (∃ o s', exec (G (m - 1)) u20_2 ⟨[.val (tabD n f), .val (sq b (iL th)), .val (.int (cl0 n f)), .val (.int pre.length), .val (.int x), y5], S⟩ = some (.rt o, s') ∧ J o s') ∨ ∃ s', exec (G (m - 1)) u20_2 ⟨[.val (tabD n f), .val (sq b (iL th)), .val (.int (cl0 n f)), .val (.int pre.length), .val (.int x), y5], S⟩ = some (.nx, s') ∧ I2 [] s' :=
          x_for_gen (i_e (v_slU (v_var rfl) (v_var rfl) hsl) it_sq) I2 J ⟨pre, _, rfl, fun v hv => hv, fun v hv => .inl hv, rfl⟩ (fun v q s ⟨w2, y5, ew, h1, h2, e⟩ => by
            subst e
            cases w2 with
            | nil => cases ew
            | cons y w2 =>
              injection ew with e1 e2
              subst e1 e2
              have hy := h1 y List.mem_cons_self
              have hq := ne_int (a := f x y) (b := cl0 n f)
              refine ⟨_, rfl, ?_⟩
              by_cases hc : f x y = cl0 n f
              · rw [hc] at hq
                simp only [BEq.rfl, Bool.not_true] at hq
                rw [← hc] at hq
                refine .inr ⟨_, r_end (x_skip (v_cmp (fun _ _ _ z => by cases z) (fun _ _ _ z => by cases z) (v_sub (fun _ _ _ z => by cases z) (v_sub (fun _ _ _ z => by cases z) (v_att (fun _ _ _ z => by cases z) (v_var rfl) att_own) (v_var rfl) (tab_at (ht x hx))) (v_var rfl) (row_at (ht y (hpre y hy)))) (v_var rfl) (by rw [hc] at hq ⊢; exact hq))), w2, _, rfl, fun v hv => h1 v (List.mem_cons_of_mem _ hv), fun v hv => ?_, rfl⟩
                rcases h2 v hv with h | h
                · rcases List.mem_cons.mp h with rfl | h
                  · exact .inr hc
                  · exact .inl h
                · exact .inr h
              · have hb : (f x y == cl0 n f) = false := by simpa using hc
                rw [hb] at hq
                exact .inl ⟨_, _, r_rt (x_iff_t (v_cmp (fun _ _ _ z => by cases z) (fun _ _ _ z => by cases z) (v_sub (fun _ _ _ z => by cases z) (v_sub (fun _ _ _ z => by cases z) (v_att (fun _ _ _ z => by cases z) (v_var rfl) att_own) (v_var rfl) (tab_at (ht x hx))) (v_var rfl) (row_at (ht y (hpre y hy)))) (v_var rfl) hq) (r_rt (x_ret (v_tup2 (v_var rfl) (v_var rfl))))), x, y, _, rfl, hx, hpre y hy, hne y hy, hc, rfl⟩)
        refine ⟨_, rfl, ?_⟩
        rcases key2 with ⟨o, s', e1, j⟩ | ⟨s', e1, w2, y5', ew, -, h2, rfl⟩
        · exact .inl ⟨o, s', r_rt e1, j⟩
        · have : w2 = [] := by cases w2 with
            | nil => rfl
            | cons => cases ew
          subst this
          refine .inr ⟨_, r_end e1, pre ++ [x], w, _, _, _, by rw [el]; simp, by rw [List.length_append]; rfl, ?_, rfl⟩
          refine List.pairwise_append.mpr ⟨hp, List.pairwise_singleton _ _, fun y hy z hz => ?_⟩
          rw [List.mem_singleton] at hz; subst hz
          rcases h2 y hy with h | h
          · cases h
          · exact h)
  have g0 : exec (G (m - 1)) t20_0 ⟨[.val (tabD n f), .val (sq b (iL th)), .no, .no, .no, .no], S⟩ = some (.nx, ⟨[.val (tabD n f), .val (sq b (iL th)), .val (.int (cl0 n f)), .no, .no, .no], S⟩) :=
    x_setv (v_call (a_shv rfl a_nil) (sp12 hT (by omega))) (by first | (simp; done) | (simp; decide))
  rcases key with ⟨o, s', e1, x, y, L, rfl, hx, hy, hne, hc, rfl⟩ | ⟨s', e1, pre, w, y3, y4, y5, el, eq, hp, rfl⟩
  · exact ⟨_, call_ok (d := d20) rfl (by omega) rfl ((r_nx g0).trans (r_rt e1)), .inr ⟨x, y, rfl, hx, hy, hne, hc⟩⟩
  · have : w = [] := by cases w with
      | nil => rfl
      | cons => rw [iL, List.map_cons, enumD] at eq; cases eq
    subst this
    rw [List.append_nil] at el
    subst el
    exact ⟨_, call_ok (d := d20) rfl (by omega) rfl ((r_nx g0).trans ((r_nx e1).trans (r_rt (x_ret (v_con rfl))))), .inl ⟨rfl, pw_fm hs ht hp⟩⟩
theorem is_non' {d : D} {y : Bool} (h : (d = .non ∧ y = true) ∨ (∃ xs, d = .tup xs) ∧ y = false) : cmpD .Is d .non = some (.bl y) := by
  rcases h with ⟨rfl, rfl⟩ | ⟨⟨xs, rfl⟩, rfl⟩ <;> rfl
theorem sp27 (hT : Tb n f) (hs : SL n f) (hm : 9 ≤ m) (hd : th.Nodup) (ht : ∀ x ∈ th, x < n) : cl m 27 [.val (tabD n f), .val (sq b (iL th))] S = some (.leaf (.bl (fmB f (cl0 n f) th)), S) := by
  obtain ⟨o, e, ho⟩ := sp20 (S := S) (b := b) hT hs (m := m - 1) (by omega) hd ht
  have hc : cmpD .Is o .non = some (.bl (fmB f (cl0 n f) th)) := is_non' (by
    rcases ho with ⟨rfl, h⟩ | ⟨x, y, rfl, hx, hy, hne, hc⟩
    · exact .inl ⟨rfl, decide_eq_true h⟩
    · exact .inr ⟨⟨_, rfl⟩, decide_eq_false fun h => hc (h x hx y hy hne)⟩)
  exact call_ok (d := d27) rfl (by omega) rfl ((r_nx (x_exp (v_call (a_shv rfl a_nil) (sp5 hT hs (by omega))))).trans ((r_nx (x_exp (v_call (a_shv rfl (a_shv rfl a_nil)) (sp13 (by omega) hd ht)))).trans (r_rt (x_ret (v_cmp (fun _ _ _ z => by cases z) (fun _ _ _ z => by cases z) (v_call (a_shv rfl (a_shv rfl a_nil)) e) (v_con rfl) hc)))))
theorem sp28 (hT : Tb n f) (hs : SL n f) (hm : 9 ≤ m) (hd : th.Nodup) (ht : ∀ x ∈ th, x < n) : ∃ o, cl m 28 [.val (tabD n f), .val (sq b (iL th))] S = some (o, S) ∧
    ((o = .leaf .non ∧ fmB f (cl0 n f) th = true) ∨ ∃ (x y : Nat), o = .nt [.fl (iL [x, y]), .fl (iL [y, x])] ∧ x ∈ th ∧ y ∈ th ∧ x ≠ y ∧ f x y ≠ cl0 n f ∧ fmB f (cl0 n f) th = false) := by
  obtain ⟨o, e, ho⟩ := sp20 (S := S) (b := b) hT hs (m := m - 1) (by omega) hd ht
  have g (z : OD) (L : List Slot) (hz : execs (G (m - 1)) (.cons t28_3 .nil) ⟨[.val (tabD n f), .val (sq b (iL th)), .val o], S⟩ = some (.rt z, ⟨L, S⟩)) : cl m 28 [.val (tabD n f), .val (sq b (iL th))] S = some (z, S) :=
    call_ok (d := d28) rfl (by omega) rfl ((r_nx (x_exp (v_call (a_shv rfl a_nil) (sp5 hT hs (by omega))))).trans ((r_nx (x_exp (v_call (a_shv rfl (a_shv rfl a_nil)) (sp13 (by omega) hd ht)))).trans ((r_nx (x_setv (v_call (a_shv rfl (a_shv rfl a_nil)) e) (by first | (simp; done) | (simp; decide)))).trans hz)))
  rcases ho with ⟨rfl, h⟩ | ⟨x, y, rfl, hx, hy, hne, hc⟩
  · exact ⟨_, g _ _ (r_rt (x_retOv (oe_ife (t := true) (v_cmp (fun _ _ _ z => by cases z) (fun _ _ _ z => by cases z) (v_var rfl) (v_con rfl) (is_non' (.inl ⟨rfl, rfl⟩))) (oe_v (v_con rfl))))), .inl ⟨rfl, decide_eq_true h⟩⟩
  · have i0 : ixD (.tup [.int x, .int y]) (.int (0 : Nat)) = some (.int x) := ix_t rfl
    have i1 : ixD (.tup [.int x, .int y]) (.int (1 : Nat)) = some (.int y) := ix_t rfl
    exact ⟨_, g _ _ (r_rt (x_retOo (oe_ife (t := false) (v_cmp (fun _ _ _ z => by cases z) (fun _ _ _ z => by cases z) (v_var rfl) (v_con rfl) (is_non' (.inr ⟨⟨_, rfl⟩, rfl⟩)))
      (oe_dt (oes_cons (oe_f (f_lst (e_cons (v_sub (fun _ _ _ z => by cases z) (v_var rfl) (v_con rfl) i0) (e_cons (v_sub (fun _ _ _ z => by cases z) (v_var rfl) (v_con rfl) i1) e_nil)) (by simp))) (oes_cons (oe_f (f_lst (e_cons (v_sub (fun _ _ _ z => by cases z) (v_var rfl) (v_con rfl) i1) (e_cons (v_sub (fun _ _ _ z => by cases z) (v_var rfl) (v_con rfl) i0) e_nil)) (by simp))) oes_nil)) rfl (by simp))))),
      .inr ⟨x, y, rfl, hx, hy, hne, hc, decide_eq_false fun h => hc (h x hx y hy hne)⟩⟩
/-! ### showers -/
structure Pt (d : D) : Prop where
  gd : gd 4 d
  its : ∀ xs, itD d = some xs → xs.length ≤ 50 ∧ ∀ v ∈ xs, Dm.gd 3 v
structure Th (d : D) : Prop where
  gd : gd 5 d
  its : ∀ xs, itD d = some xs → xs.length ≤ 50 ∧ ∀ v ∈ xs, Pt v
def shB (n : Nat) (d : D) : Bool := match itD d with
  | some xs => !xs.isEmpty && xs.all (isV n)
  | none => false
def ns (d : D) : List Nat := ((itD d).getD []).map num
theorem all_iL : ∀ {xs : List D}, xs.all (isV n) = true → xs = iL (xs.map num) ∧ ∀ y ∈ xs.map num, y < n
  | [], _ => ⟨rfl, fun y hy => by cases hy⟩
  | x :: xs, h => by
    rw [List.all_cons, Bool.and_eq_true] at h
    obtain ⟨e1, e2⟩ := all_iL h.2
    obtain ⟨k, hk, rfl⟩ := isV_int h.1
    refine ⟨?_, fun y hy => ?_⟩
    · show D.int k :: xs = D.int ((num (.int (k : Int)) : Nat) : Int) :: iL (xs.map num)
      rw [← e1]
      simp [num]
    · rcases List.mem_cons.mp hy with rfl | hy
      · simpa [num] using hk
      · exact e2 y hy
theorem sh_ok {d : D} (h : shB n d = true) : ∃ (b : Bool) (l : List Nat), d = sq b (iL l) ∧ l ≠ [] ∧ (∀ x ∈ l, x < n) ∧ ns d = l := by
  unfold shB at h
  split at h
  · rename_i xs e
    rw [Bool.and_eq_true] at h
    obtain ⟨e1, e2⟩ := all_iL h.2
    have hne : xs.map num ≠ [] := fun z => by
      rw [List.map_eq_nil_iff] at z
      subst z
      simp at h
    have hd : ∃ b, d = sq b xs := by
      cases d <;> simp only [itD] at e <;> cases e
      · exact ⟨true, rfl⟩
      · exact ⟨false, rfl⟩
    obtain ⟨b, rfl⟩ := hd
    exact ⟨b, xs.map num, by rw [← e1], hne, e2, by unfold ns; rw [it_sq]; rfl⟩
  · cases h
theorem it_none {d : D} (h : itD d = none) (hg : gd 5 d) : isiTD d [.list, .tuple] = some false := by
  cases d with
  | obj q fs => exact absurd rfl (hg.top.1 q fs)
  | scr ns => exact absurd rfl (hg.top.2 ns)
  | lst xs => cases h
  | tup xs => cases h
  | _ => rfl
theorem it_some {d : D} {xs : List D} (h : itD d = some xs) : ∃ b, d = sq b xs := by
  cases d <;> simp only [itD] at h <;> cases h
  · exact ⟨true, rfl⟩
  · exact ⟨false, rfl⟩
theorem isi_sq {xs : List D} : isiTD (sq b xs) [.list, .tuple] = some true := by cases b <;> rfl
theorem v_isiT {Γ : Env} {a : E} {ts : List (Ty × Pos)} {k : Nat} {p1 p2 p3 : Pos} {s s1 : St} {x : D} {r : Bool} (ha : den Γ a s = some (x, s1)) (h : isiTD x (ts.map (·.1)) = some r) : den Γ (.isiT a ts k p1 p2 p3) s = some (.bl r, s1) := by
  rw [den, bnd_ok ha, h]; rfl
theorem sp1n (hm : 1 ≤ m) {d : D} (h : itD d = none) (hg : gd 5 d) : cl m 1 [.val d] S = some (.leaf (.bl false), S) :=
  call_ok (d := d1) rfl hm rfl (r_rt (x_ret (v_isiT (v_var rfl) (it_none h hg))))
theorem gt0 {xs : List D} : cmpD .Gt (.int xs.length) (.int 0) = some (.bl (!xs.isEmpty)) := by
  cases xs with
  | nil => rfl
  | cons => simp [cmpD, cmpI]
theorem sp29 (hm : 4 ≤ m) {d : D} (h : Pt d) : cl m 29 [.val (tabD n f), .val d] S = some (.leaf (.bl (shB n d)), S) := by
  cases hi : itD d with
  | none =>
    have e : shB n d = false := by unfold shB; rw [hi]
    rw [e]
    exact call_ok (d := d29) rfl (by omega) rfl (r_rt (x_ret (v_and_ff (v_call (a_shv rfl a_nil) (sp1n (by omega) hi (h.gd.mono (by omega)))))))
  | some xs =>
    obtain ⟨h1, h2⟩ := h.its xs hi
    have e : shB n d = (!xs.isEmpty && xs.all (isV n)) := by unfold shB; rw [hi]
    obtain ⟨b, rfl⟩ := it_some hi
    rw [e]
    cases he : xs.isEmpty
    · have hg := gt0 (xs := xs)
      rw [he] at hg
      have hc : den (G (m - 1)) c29_0 ⟨[.val (tabD n f), .val (sq b xs), .no], S⟩ = some (.lst (xs.map fun v => .bl (isV n v)), ⟨[.val (tabD n f), .val (sq b xs), .no], S⟩) :=
        comp1p _ (.inl rfl) (i_e (v_var rfl) it_sq) (by unfold sizeLine; omega) fun v hv => v_call (a_shv rfl (a_shv rfl a_nil)) (sp9 (by omega) (h2 v hv))
      exact call_ok (d := d29) rfl (by omega) rfl (r_rt (x_ret (v_and3 (v_call (a_shv rfl a_nil) (sp1q (by omega))) (v_cmp (fun _ _ _ z => by cases z) (fun _ _ _ z => by cases z) (v_bi1 (fun _ _ _ z => by cases z) (v_var rfl) len_sq) (v_con rfl) hg) (v_bi1 (fun _ _ _ z => by cases z) hc allBl_map))))
    · have hg := gt0 (xs := xs)
      rw [he] at hg
      exact call_ok (d := d29) rfl (by omega) rfl (r_rt (x_ret (v_and3m (v_call (a_shv rfl a_nil) (sp1q (by omega))) (v_cmp (fun _ _ _ z => by cases z) (fun _ _ _ z => by cases z) (v_bi1 (fun _ _ _ z => by cases z) (v_var rfl) len_sq) (v_con rfl) hg))))
end K44
end Dm

namespace Dm
open PySem L2
namespace K44
variable {n m : Nat} {S : List OD} {f : Nat → Nat → Nat} {b c : Bool} {th l : List Nat}
/-! ### the law's own look at showers -/
theorem v_notF {Γ : Env} {a : E} {p : Pos} {s s1 : St} (h : den Γ a s = some (.bl false, s1)) : den Γ (.una .Not a p) s = some (.bl true, s1) := v_not h
theorem eq0 {xs : List D} : cmpD .Eq (.int xs.length) (.int 0) = some (.bl xs.isEmpty) := by
  have h := eq_nat (a := xs.length) (b := 0)
  cases xs with
  | nil => exact h
  | cons => exact h
def plainInt (d : D) : Bool := isInt d
theorem sp33_el {Γ : Env} {L : List Slot} {x : Str} {p p1 p2 p3 p4 p5 p6 p7 p8 p9 : Pos} {k1 k2 : Nat} {d : D} (hg : gd 3 d) (h : L[2]? = some (.val d)) :
    den Γ (.bop .And (.isi (.var 2 x p1) .int p2 p3 p4) (.cons (.cmp (.var 2 x p5) .IsNot (.con (.bool true) k1 p6) p7) (.cons (.cmp (.var 2 x p8) .IsNot (.con (.bool false) k2 p9) p) .nil)) p) ⟨L, S⟩ = some (.bl (isInt d), ⟨L, S⟩) := by
  cases d with
  | obj q fs => exact absurd rfl (hg.top.1 q fs)
  | scr ns => exact absurd rfl (hg.top.2 ns)
  | bl b =>
    cases b
    · exact v_and3 (v_isi (fun _ _ _ z => by cases z) (v_var h) rfl) (v_cmp (fun _ _ _ z => by cases z) (fun _ _ _ z => by cases z) (v_var h) (v_con rfl) rfl) (v_cmp (fun _ _ _ z => by cases z) (fun _ _ _ z => by cases z) (v_var h) (v_con rfl) rfl)
    · exact v_and3m (v_isi (fun _ _ _ z => by cases z) (v_var h) rfl) (v_cmp (fun _ _ _ z => by cases z) (fun _ _ _ z => by cases z) (v_var h) (v_con rfl) rfl)
  | int i => exact v_and3 (v_isi (fun _ _ _ z => by cases z) (v_var h) rfl) (v_cmp (fun _ _ _ z => by cases z) (fun _ _ _ z => by cases z) (v_var h) (v_con rfl) rfl) (v_cmp (fun _ _ _ z => by cases z) (fun _ _ _ z => by cases z) (v_var h) (v_con rfl) rfl)
  | _ => exact v_and_ff (v_isi (fun _ _ _ z => by cases z) (v_var h) rfl)
theorem v_cmp2 {Γ : Env} {a b c : E} {o1 o2 : CmpOp} {p : Pos} {s s1 s2 s3 : St} {x y z d : D} (ha : den Γ a s = some (x, s1)) (hb : den Γ b s1 = some (y, s2)) (h1 : cmpD o1 x y = some (.bl true)) (hc : den Γ c s2 = some (z, s3)) (h2 : cmpD o2 y z = some d) : den Γ (.cmp2 a o1 b o2 c p) s = some (d, s3) := by
  rw [den, bnd_ok ha, bnd_ok hb, h1]
  simp only [ofO, bnd, ret, D.tr, if_true]
  rw [hc]
  simp only [h2]; rfl
theorem v_cmp2f {Γ : Env} {a b c : E} {o1 o2 : CmpOp} {p : Pos} {s s1 s2 : St} {x y : D} (ha : den Γ a s = some (x, s1)) (hb : den Γ b s1 = some (y, s2)) (h1 : cmpD o1 x y = some (.bl false)) : den Γ (.cmp2 a o1 b o2 c p) s = some (.bl false, s2) := by
  rw [den, bnd_ok ha, bnd_ok hb, h1]
  rfl
theorem all_isV {xs : List D} (h : xs.all isInt = false) : xs.all (isV n) = false := by
  rw [List.all_eq_false] at h ⊢
  obtain ⟨d, hd, h⟩ := h
  refine ⟨d, hd, ?_⟩
  cases d <;> simp [isInt, isV] at h ⊢
theorem rows_len : bi1D .len (rowsD n f) = some (.int n) := by
  show bi1D .len (.lst (rowsL n f)) = _
  rw [b1L, rowsL_len]
theorem sp33 (hm : 1 ≤ m) {d : D} (h : Pt d) : cl m 33 [.val (rowsD n f), .val d] S = some (.leaf (.bl (shB n d)), S) := by
  cases hi : itD d with
  | none =>
    have e : shB n d = false := by unfold shB; rw [hi]
    rw [e]
    exact call_ok (d := d33) rfl (by omega) rfl (r_rt (x_iff_t (v_or_t (v_notF (v_isiT (v_var rfl) (it_none hi (h.gd.mono (by omega)))))) (r_rt (x_ret (v_con rfl)))))
  | some xs =>
    obtain ⟨h1, h2⟩ := h.its xs hi
    have e : shB n d = (!xs.isEmpty && xs.all (isV n)) := by unfold shB; rw [hi]
    obtain ⟨b, rfl⟩ := it_some hi
    rw [e]
    have q0 : den (G (m - 1)) (.una .Not (.isiT (.var 1 "_law_thing" (P 226 22 32)) [(.list, P 226 35 39), (.tuple, P 226 41 46)] 0 (P 226 11 21) (P 226 34 47) (P 226 11 48)) (P 226 7 48)) ⟨[.val (rowsD n f), .val (sq b xs), .no], S⟩ = some (.bl false, ⟨[.val (rowsD n f), .val (sq b xs), .no], S⟩) := v_notT (v_isiT (v_var rfl) isi_sq)
    have hz := eq0 (xs := xs)
    cases he : xs.isEmpty
    · rw [he] at hz
      have g0 : exec (G (m - 1)) t33_0 ⟨[.val (rowsD n f), .val (sq b xs), .no], S⟩ = some (.nx, ⟨[.val (rowsD n f), .val (sq b xs), .no], S⟩) :=
        x_skip (v_or_f (v_notT (v_isiT (v_var rfl) isi_sq)) (v_cmp (fun _ _ _ z => by cases z) (fun _ _ _ z => by cases z) (v_bi1 (fun _ _ _ z => by cases z) (v_var rfl) len_sq) (v_con rfl) hz))
      have hc : den (G (m - 1)) c33_0 ⟨[.val (rowsD n f), .val (sq b xs), .no], S⟩ = some (.lst (xs.map fun v => .bl (isInt v)), ⟨[.val (rowsD n f), .val (sq b xs), .no], S⟩) :=
        comp1p _ (.inl rfl) (i_e (v_var rfl) it_sq) (by unfold sizeLine; omega) fun v hv => sp33_el (h2 v hv) rfl
      cases ha : xs.all isInt
      · rw [all_isV ha]
        have hx := allBl_map (ds := xs) (p := isInt)
        rw [ha] at hx
        exact call_ok (d := d33) rfl (by omega) rfl ((r_nx g0).trans (r_rt (x_iff_t (v_notF (v_bi1 (fun _ _ _ z => by cases z) hc hx)) (r_rt (x_ret (v_con rfl))))))
      · have hx := allBl_map (ds := xs) (p := isInt)
        rw [ha] at hx
        have g1 : exec (G (m - 1)) t33_1 ⟨[.val (rowsD n f), .val (sq b xs), .no], S⟩ = some (.nx, ⟨[.val (rowsD n f), .val (sq b xs), .no], S⟩) := x_skip (v_notT (v_bi1 (fun _ _ _ z => by cases z) hc hx))
        have hc1 : den (G (m - 1)) c33_1 ⟨[.val (rowsD n f), .val (sq b xs), .no], S⟩ = some (.lst (xs.map fun v => .bl (isV n v)), ⟨[.val (rowsD n f), .val (sq b xs), .no], S⟩) :=
          comp1p _ (.inl rfl) (i_e (v_var rfl) it_sq) (by unfold sizeLine; omega) fun v hv => by
            have hv' := List.all_eq_true.mp ha v hv
            cases v with
            | int i =>
              by_cases hp : 0 ≤ i
              · have e : isV n (.int i) = decide (i < (n : Int)) := by simp [isV, hp]
                rw [e]
                exact v_cmp2 (v_con rfl) (v_var rfl) (by simp [cmpD, cmpI, hp]) (v_bi1 (fun _ _ _ z => by cases z) (v_var rfl) rows_len) (by simp [cmpD, cmpI])
              · have e : isV n (.int i) = false := by simp [isV, hp]
                rw [e]
                exact v_cmp2f (v_con rfl) (v_var rfl) (by simp [cmpD, cmpI, hp])
            | _ => simp [isInt] at hv'
        exact call_ok (d := d33) rfl (by omega) rfl ((r_nx g0).trans ((r_nx g1).trans (r_rt (x_ret (v_bi1 (fun _ _ _ z => by cases z) hc1 allBl_map)))))
    · rw [he] at hz
      exact call_ok (d := d33) rfl (by omega) rfl (r_rt (x_iff_t (v_or_f (v_notT (v_isiT (v_var rfl) isi_sq)) (v_cmp (fun _ _ _ z => by cases z) (fun _ _ _ z => by cases z) (v_bi1 (fun _ _ _ z => by cases z) (v_var rfl) len_sq) (v_con rfl) hz)) (r_rt (x_ret (v_con rfl)))))
/-! ### two showers that read unlike -/
abbrev zs (l : List Nat) : List Int := l.map fun (x : Nat) => (x : Int)
def unB (n : Nat) (f : Nat → Nat → Nat) (th : List Nat) : D → Bool
  | .tup [p, q] => (shB n p && shB n q) && (ssI (zs (ns p)) == ssI (zs (ns q)) && (!(jl f (ns p) == cl0 n f) && !(rd f th (ns p) == rd f th (ns q))))
  | _ => false
theorem un_two {p q : D} : unB n f th (.tup [p, q]) = ((shB n p && shB n q) && (ssI (zs (ns p)) == ssI (zs (ns q)) && (!(jl f (ns p) == cl0 n f) && !(rd f th (ns p) == rd f th (ns q))))) := rfl
theorem sne_sq {k l : List Nat} (h1 : k.length < 64) (h2 : l.length < 64) : sneD (sq b (iL k)) (sq c (iL l)) = some (.bl (!(ssI (zs k) == ssI (zs l)))) := by
  have e : ∀ (b : Bool) (l : List Nat), itsI (sq b (iL l)) = some (zs l) := fun b l => by cases b <;> exact allI_iL
  unfold sneD
  rw [e, e]
  simp only []
  rw [if_pos ⟨by rw [List.length_map]; exact h1, by rw [List.length_map]; exact h2⟩]
theorem gd_rd {r : Option (List Int)} : gd 1 (rdD r) := by
  cases r with
  | none => exact gd_non
  | some l => exact gd_lst fun d hd => by obtain ⟨i, _, rfl⟩ := List.mem_map.mp hd; exact gd_int
theorem ne_rd {r q : Option (List Int)} : cmpD .NotEq (rdD r) (rdD q) = some (.bl (!(r == q))) := by
  have e : eqD (rdD r) (rdD q) = some (r == q) := by
    cases r with
    | none =>
      cases q with
      | none => rw [eqD_gd gd_rd gd_rd (by omega) (by omega)]; rfl
      | some l => rw [eqD_gd gd_rd gd_rd (by omega) (by omega)]; simp [rdD, D.py, PyData.eqv]
    | some k =>
      cases q with
      | none => rw [eqD_gd gd_rd gd_rd (by omega) (by omega)]; simp [rdD, D.py, PyData.eqv]
      | some l => exact eq_ints
  unfold cmpD
  simp only [e]; rfl
theorem isi_tup {d : D} (hg : gd 5 d) (h : ∀ xs, d ≠ .tup xs) : isiD d .tuple = some false := by
  cases d with
  | obj q fs => exact absurd rfl (hg.top.1 q fs)
  | scr ns => exact absurd rfl (hg.top.2 ns)
  | tup xs => exact absurd rfl (h xs)
  | _ => rfl
theorem ne2 {xs : List D} : cmpD .NotEq (.int xs.length) (.int 2) = some (.bl (!(xs.length == 2))) := ne_int (b := 2)
theorem all2 {x y : Bool} : bi1D .all (.lst [.bl x, .bl y]) = some (.bl (x && y)) := by cases x <;> cases y <;> rfl
theorem un_cases (d : D) : (∀ xs, d ≠ .tup xs) ∨ (∃ xs, d = .tup xs ∧ xs.length ≠ 2) ∨ ∃ p q, d = .tup [p, q] := by
  cases d with
  | tup xs =>
    match xs with
    | [p, q] => exact .inr (.inr ⟨p, q, rfl⟩)
    | [] => exact .inr (.inl ⟨_, rfl, by simp⟩)
    | [p] => exact .inr (.inl ⟨_, rfl, by simp⟩)
    | p :: q :: r :: s => exact .inr (.inl ⟨_, rfl, by simp⟩)
  | _ => exact .inl fun xs e => by cases e
theorem un_no1 {d : D} (h : ∀ xs, d ≠ .tup xs) : unB n f th d = false := by
  unfold unB
  split
  · exact absurd rfl (h _)
  · rfl
theorem un_no2 {xs : List D} (h : xs.length ≠ 2) : unB n f th (.tup xs) = false := by
  unfold unB
  split
  · rename_i e; cases e; exact absurd rfl h
  · rfl
theorem not2 {xs : List D} (h : xs.length ≠ 2) : cmpD .NotEq (.int xs.length) (.int 2) = some (.bl true) := by
  rw [ne2]
  have : (xs.length == 2) = false := by simpa using h
  rw [this]; rfl
theorem is2 {p q : D} : cmpD .NotEq (.int ([p, q] : List D).length) (.int 2) = some (.bl false) := ne2
theorem sp30 (hT : Tb n f) (hs : SL n f) (hm : 9 ≤ m) (hd : th.Nodup) (ht : ∀ x ∈ th, x < n) (hth : th.length ≤ 10) {d : D} (h : Th d) : cl m 30 [.val (tabD n f), .val (.lst (iL th)), .val d] S = some (.leaf (.bl (unB n f th d)), S) := by
  have start {o : OD} {L : List Slot} (g : execs (G (m - 1)) (.cons t30_2 (.cons t30_3 (.cons t30_4 (.cons t30_5 .nil)))) ⟨[.val (tabD n f), .val (.lst (iL th)), .val d, .no, .no, .no], S⟩ = some (.rt o, ⟨L, S⟩)) : cl m 30 [.val (tabD n f), .val (.lst (iL th)), .val d] S = some (o, S) :=
    call_ok (d := d30) rfl (by omega) rfl ((r_nx (x_exp (v_call (a_shv rfl a_nil) (sp5 hT hs (by omega))))).trans ((r_nx (x_exp (v_call (a_shv rfl (a_shv rfl a_nil)) (sp13 (b := false) (by omega) hd ht)))).trans g))
  rcases un_cases d with hn | ⟨xs, rfl, hx⟩ | ⟨p, q, rfl⟩
  · rw [un_no1 hn]
    exact start (r_rt (x_iff_t (v_or_t (v_notF (v_isi (fun _ _ _ z => by cases z) (v_var rfl) (isi_tup h.gd hn)))) (r_rt (x_ret (v_con rfl)))))
  · rw [un_no2 hx]
    exact start (r_rt (x_iff_t (v_or3m (v_notT (v_isi (fun _ _ _ z => by cases z) (v_var rfl) rfl)) (v_cmp (fun _ _ _ z => by cases z) (fun _ _ _ z => by cases z) (v_bi1 (fun _ _ _ z => by cases z) (v_var rfl) b1T) (v_con rfl) (not2 hx))) (r_rt (x_ret (v_con rfl)))))
  · obtain ⟨-, hpq⟩ := h.its _ rfl
    have hp := hpq p (by simp)
    have hq := hpq q (by simp)
    have hc : den (G (m - 1)) c30_0 ⟨[.val (tabD n f), .val (.lst (iL th)), .val (.tup [p, q]), .no, .no, .no], S⟩ = some (.lst [.bl (shB n p), .bl (shB n q)], ⟨[.val (tabD n f), .val (.lst (iL th)), .val (.tup [p, q]), .no, .no, .no], S⟩) :=
      comp2 (.inl rfl) (i_e (v_var rfl) rfl) (v_call (a_shv rfl (a_shv rfl a_nil)) (sp29 (by omega) hp)) (v_call (a_shv rfl (a_shv rfl a_nil)) (sp29 (by omega) hq))
    have ha := all2 (x := shB n p) (y := shB n q)
    rw [un_two]
    cases hb : shB n p && shB n q
    · rw [hb] at ha
      exact start (r_rt (x_iff_t (v_or3 (v_notT (v_isi (fun _ _ _ z => by cases z) (v_var rfl) rfl)) (v_cmp (fun _ _ _ z => by cases z) (fun _ _ _ z => by cases z) (v_bi1 (fun _ _ _ z => by cases z) (v_var rfl) b1T) (v_con rfl) is2) (v_notF (v_bi1 (fun _ _ _ z => by cases z) hc ha))) (r_rt (x_ret (v_con rfl)))))
    · rw [hb] at ha
      rw [Bool.and_eq_true] at hb
      obtain ⟨b1, l1, rfl, n1, v1, e1⟩ := sh_ok hb.1
      obtain ⟨b2, l2, rfl, n2, v2, e2⟩ := sh_ok hb.2
      rw [e1, e2]
      have k1 : l1.length ≤ 50 := by have := (hp.its _ it_sq).1; rwa [iL_len] at this
      have k2 : l2.length ≤ 50 := by have := (hq.its _ it_sq).1; rwa [iL_len] at this
      have g2 : exec (G (m - 1)) t30_2 ⟨[.val (tabD n f), .val (.lst (iL th)), .val (.tup [sq b1 (iL l1), sq b2 (iL l2)]), .no, .no, .no], S⟩ = some (.nx, ⟨[.val (tabD n f), .val (.lst (iL th)), .val (.tup [sq b1 (iL l1), sq b2 (iL l2)]), .no, .no, .no], S⟩) :=
        x_skip (v_or3 (v_notT (v_isi (fun _ _ _ z => by cases z) (v_var rfl) rfl)) (v_cmp (fun _ _ _ z => by cases z) (fun _ _ _ z => by cases z) (v_bi1 (fun _ _ _ z => by cases z) (v_var rfl) b1T) (v_con rfl) is2) (v_notT (v_bi1 (fun _ _ _ z => by cases z) hc ha)))
      have g3 : exec (G (m - 1)) t30_3 ⟨[.val (tabD n f), .val (.lst (iL th)), .val (.tup [sq b1 (iL l1), sq b2 (iL l2)]), .no, .no, .no], S⟩ = some (.nx, ⟨[.val (tabD n f), .val (.lst (iL th)), .val (.tup [sq b1 (iL l1), sq b2 (iL l2)]), .val (sq b1 (iL l1)), .val (sq b2 (iL l2)), .no], S⟩) :=
        x_asg (v_var rfl) rfl
      have hse := sne_sq (b := b1) (c := b2) (k := l1) (l := l2) (by omega) (by omega)
      cases hx : ssI (zs l1) == ssI (zs l2)
      · rw [hx] at hse
        exact start ((r_nx g2).trans ((r_nx g3).trans (r_rt (x_iff_t (v_or_t (v_sne (v_var rfl) (v_var rfl) hse)) (r_rt (x_ret (v_con rfl)))))))
      · rw [hx] at hse
        have hj := eq_nat (a := jl f l1) (b := cl0 n f)
        cases hy : jl f l1 == cl0 n f
        · rw [hy] at hj
          have z1 := sp15 (S := S) (b := false) (c := b1) hT hs (m := m - 1) (by omega) ht hth n1 (by omega) v1
          have z2 := sp15 (S := S) (b := false) (c := b2) hT hs (m := m - 1) (by omega) ht hth n2 (by omega) v2
          have z3 := ne_rd (r := rd f th l1) (q := rd f th l2)
          rw [← rdO_toD, ← rdO_toD] at z3
          exact start ((r_nx g2).trans ((r_nx g3).trans ((r_nx (x_skip (v_or_f (v_sne (v_var rfl) (v_var rfl) hse) (v_cmp (fun _ _ _ z => by cases z) (fun _ _ _ z => by cases z) (v_call (a_shv rfl (a_shv rfl a_nil)) (sp8 hT (by omega) n1 v1)) (v_call (a_shv rfl a_nil) (sp12 hT (by omega))) hj)))).trans
            (r_rt (x_ret (v_cmp (fun _ _ _ z => by cases z) (fun _ _ _ z => by cases z) (v_callO (a_shv rfl (a_shv rfl (a_shv rfl a_nil))) z1) (v_callO (a_shv rfl (a_shv rfl (a_shv rfl a_nil))) z2) z3))))))
        · rw [hy] at hj
          exact start ((r_nx g2).trans ((r_nx g3).trans (r_rt (x_iff_t (v_or_f (v_sne (v_var rfl) (v_var rfl) hse) (v_cmp (fun _ _ _ z => by cases z) (fun _ _ _ z => by cases z) (v_call (a_shv rfl (a_shv rfl a_nil)) (sp8 hT (by omega) n1 v1)) (v_call (a_shv rfl a_nil) (sp12 hT (by omega))) hj)) (r_rt (x_ret (v_con rfl)))))))
theorem conv_sq {xs : List D} : convD .list (sq b xs) = some (.lst xs) := by cases b <;> rfl
theorem sp34 (hT : Tb n f) (hm : 2 ≤ m) (ht : ∀ x ∈ th, x < n) (hth : th.length ≤ 10) {d : D} (h : Th d) : cl m 34 [.val (rowsD n f), .val (.int (cl0 n f)), .val (.lst (iL th)), .val d] S = some (.leaf (.bl (unB n f th d)), S) := by
  rcases un_cases d with hn | ⟨xs, rfl, hx⟩ | ⟨p, q, rfl⟩
  · rw [un_no1 hn]
    exact call_ok (d := d34) rfl (by omega) rfl (r_rt (x_iff_t (v_or_t (v_notF (v_isi (fun _ _ _ z => by cases z) (v_var rfl) (isi_tup h.gd hn)))) (r_rt (x_ret (v_con rfl)))))
  · rw [un_no2 hx]
    exact call_ok (d := d34) rfl (by omega) rfl (r_rt (x_iff_t (v_or3m (v_notT (v_isi (fun _ _ _ z => by cases z) (v_var rfl) rfl)) (v_cmp (fun _ _ _ z => by cases z) (fun _ _ _ z => by cases z) (v_bi1 (fun _ _ _ z => by cases z) (v_var rfl) b1T) (v_con rfl) (not2 hx))) (r_rt (x_ret (v_con rfl)))))
  · obtain ⟨-, hpq⟩ := h.its _ rfl
    have hp := hpq p (by simp)
    have hq := hpq q (by simp)
    have hc : den (G (m - 1)) c34_0 ⟨[.val (rowsD n f), .val (.int (cl0 n f)), .val (.lst (iL th)), .val (.tup [p, q]), .no, .no, .no], S⟩ = some (.lst [.bl (shB n p), .bl (shB n q)], ⟨[.val (rowsD n f), .val (.int (cl0 n f)), .val (.lst (iL th)), .val (.tup [p, q]), .no, .no, .no], S⟩) :=
      comp2 (.inl rfl) (i_e (v_var rfl) rfl) (v_call (a_shv rfl (a_shv rfl a_nil)) (sp33 (by omega) hp)) (v_call (a_shv rfl (a_shv rfl a_nil)) (sp33 (by omega) hq))
    have ha := all2 (x := shB n p) (y := shB n q)
    rw [un_two]
    cases hb : shB n p && shB n q
    · rw [hb] at ha
      exact call_ok (d := d34) rfl (by omega) rfl (r_rt (x_iff_t (v_or3 (v_notT (v_isi (fun _ _ _ z => by cases z) (v_var rfl) rfl)) (v_cmp (fun _ _ _ z => by cases z) (fun _ _ _ z => by cases z) (v_bi1 (fun _ _ _ z => by cases z) (v_var rfl) b1T) (v_con rfl) is2) (v_notF (v_bi1 (fun _ _ _ z => by cases z) hc ha))) (r_rt (x_ret (v_con rfl)))))
    · rw [hb] at ha
      rw [Bool.and_eq_true] at hb
      obtain ⟨b1, l1, rfl, n1, v1, e1⟩ := sh_ok hb.1
      obtain ⟨b2, l2, rfl, n2, v2, e2⟩ := sh_ok hb.2
      rw [e1, e2]
      have k1 : l1.length ≤ 50 := by have := (hp.its _ it_sq).1; rwa [iL_len] at this
      have k2 : l2.length ≤ 50 := by have := (hq.its _ it_sq).1; rwa [iL_len] at this
      have i0 : ixD (.tup [sq b1 (iL l1), sq b2 (iL l2)]) (.int (0 : Nat)) = some (sq b1 (iL l1)) := ix_t rfl
      have i1 : ixD (.tup [sq b1 (iL l1), sq b2 (iL l2)]) (.int (1 : Nat)) = some (sq b2 (iL l2)) := ix_t rfl
      have g2 : exec (G (m - 1)) t34_0 ⟨[.val (rowsD n f), .val (.int (cl0 n f)), .val (.lst (iL th)), .val (.tup [sq b1 (iL l1), sq b2 (iL l2)]), .no, .no, .no], S⟩ = some (.nx, ⟨[.val (rowsD n f), .val (.int (cl0 n f)), .val (.lst (iL th)), .val (.tup [sq b1 (iL l1), sq b2 (iL l2)]), .no, .no, .no], S⟩) :=
        x_skip (v_or3 (v_notT (v_isi (fun _ _ _ z => by cases z) (v_var rfl) rfl)) (v_cmp (fun _ _ _ z => by cases z) (fun _ _ _ z => by cases z) (v_bi1 (fun _ _ _ z => by cases z) (v_var rfl) b1T) (v_con rfl) is2) (v_notT (v_bi1 (fun _ _ _ z => by cases z) hc ha)))
      have g3 : exec (G (m - 1)) t34_1 ⟨[.val (rowsD n f), .val (.int (cl0 n f)), .val (.lst (iL th)), .val (.tup [sq b1 (iL l1), sq b2 (iL l2)]), .no, .no, .no], S⟩ = some (.nx, ⟨[.val (rowsD n f), .val (.int (cl0 n f)), .val (.lst (iL th)), .val (.tup [sq b1 (iL l1), sq b2 (iL l2)]), .val (.lst (iL l1)), .val (.lst (iL l2)), .no], S⟩) :=
        x_par2 (oe_v (v_conv (v_sub (fun _ _ _ z => by cases z) (v_var rfl) (v_con rfl) i0) conv_sq)) (oe_v (v_conv (v_sub (fun _ _ _ z => by cases z) (v_var rfl) (v_con rfl) i1) conv_sq)) (by first | (simp; done) | (simp; decide)) (by first | (simp; done) | (simp; decide))
      have start {o : OD} {L : List Slot} (g : execs (G (m - 1)) (.cons t34_2 (.cons t34_3 .nil)) ⟨[.val (rowsD n f), .val (.int (cl0 n f)), .val (.lst (iL th)), .val (.tup [sq b1 (iL l1), sq b2 (iL l2)]), .val (.lst (iL l1)), .val (.lst (iL l2)), .no], S⟩ = some (.rt o, ⟨L, S⟩)) : cl m 34 [.val (rowsD n f), .val (.int (cl0 n f)), .val (.lst (iL th)), .val (.tup [sq b1 (iL l1), sq b2 (iL l2)])] S = some (o, S) :=
        call_ok (d := d34) rfl (by omega) rfl ((r_nx g2).trans ((r_nx g3).trans g))
      have hse := sne_sq (b := false) (c := false) (k := l1) (l := l2) (by omega) (by omega)
      cases hx : ssI (zs l1) == ssI (zs l2)
      · rw [hx] at hse
        exact start (r_rt (x_iff_t (v_or_t (v_sne (v_var rfl) (v_var rfl) hse)) (r_rt (x_ret (v_con rfl)))))
      · rw [hx] at hse
        have hj := eq_nat (a := jl f l1) (b := cl0 n f)
        cases hy : jl f l1 == cl0 n f
        · rw [hy] at hj
          have z1 := sp32 (S := S) hT (m := m - 1) (by omega) ht hth n1 v1
          have z2 := sp32 (S := S) hT (m := m - 1) (by omega) ht hth n2 v2
          exact start ((r_nx (x_skip (v_or_f (v_sne (v_var rfl) (v_var rfl) hse) (v_cmp (fun _ _ _ z => by cases z) (fun _ _ _ z => by cases z) (v_call (a_shv rfl (a_shv rfl a_nil)) (sp31 hT (by omega) n1 v1)) (v_var rfl) hj)))).trans
            (r_rt (x_ret (v_cmp (fun _ _ _ z => by cases z) (fun _ _ _ z => by cases z) (v_call (a_shv rfl (a_shv rfl (a_shv rfl a_nil))) z1) (v_call (a_shv rfl (a_shv rfl (a_shv rfl a_nil))) z2) ne_rd))))
        · rw [hy] at hj
          exact start (r_rt (x_iff_t (v_or_f (v_sne (v_var rfl) (v_var rfl) hse) (v_cmp (fun _ _ _ z => by cases z) (fun _ _ _ z => by cases z) (v_call (a_shv rfl (a_shv rfl a_nil)) (sp31 hT (by omega) n1 v1)) (v_var rfl) hj)) (r_rt (x_ret (v_con rfl)))))
end K44
end Dm

namespace Dm
open PySem L2
namespace K44
variable {n m : Nat} {S : List OD} {f : Nat → Nat → Nat} {th l : List Nat}
/-! ### the plain law -/
theorem fold_jn (hT : Tb n f) (hs : SL n f) : ∀ {r : List Nat} {x : Nat}, x < n → (∀ y ∈ r, y < n) → r ≠ [] → r.foldl f x = f x (jn f r)
  | [y], x, _, _, _ => rfl
  | y :: z :: r, x, hx, hr, _ => by
    have hy := hr y List.mem_cons_self
    have hr' : ∀ w ∈ z :: r, w < n := fun w hw => hr w (List.mem_cons_of_mem _ hw)
    rw [List.foldl_cons, fold_jn hT hs (hT.in' _ hx _ hy) hr' (by simp), hs.asso _ _ _ hx hy (jn_lt hT (by simp) hr')]
    rfl
theorem jl_jn (hT : Tb n f) (hs : SL n f) : ∀ {l : List Nat}, l ≠ [] → (∀ y ∈ l, y < n) → jl f l = jn f l
  | [x], _, _ => rfl
  | x :: y :: r, _, h => fold_jn hT hs (h x List.mem_cons_self) (fun z hz => h z (List.mem_cons_of_mem _ hz)) (by simp)
theorem jl_ext (hT : Tb n f) (hs : SL n f) {a b : List Nat} (ha : a ≠ []) (hb : b ≠ []) (hn : ∀ y ∈ a, y < n) (hab : ∀ x, x ∈ a ↔ x ∈ b) : jl f a = jl f b := by
  rw [jl_jn hT hs ha hn, jl_jn hT hs hb fun y hy => hn y ((hab y).mpr hy)]
  exact jn_ext hT hs ha hb hn hab
theorem le_trans' (hs : SL n f) {x s t : Nat} (hx : x < n) (h1 : s < n) (h2 : t < n) (a : f x s = s) (b : f s t = t) : f x t = t := by
  have := hs.asso x s t hx h1 h2
  rw [a, b] at this
  exact this.symm
theorem fold_ge (hT : Tb n f) (hs : SL n f) : ∀ {r : List Nat} {x : Nat}, x < n → (∀ y ∈ r, y < n) → f x (r.foldl f x) = r.foldl f x
  | [], x, hx, _ => hs.idem x hx
  | y :: r, x, hx, hr => by
    have hy := hr y List.mem_cons_self
    have hr' : ∀ w ∈ r, w < n := fun w hw => hr w (List.mem_cons_of_mem _ hw)
    have hf := hT.in' _ hx _ hy
    rw [List.foldl_cons]
    refine le_trans' hs hx hf (fold_lt hT hf hr') ?_ (fold_ge hT hs hf hr')
    rw [← hs.asso _ _ _ hx hx hy, hs.idem x hx]
theorem insS_mem {x i : Int} : ∀ {l : List Int}, i ∈ insS x l ↔ i = x ∨ i ∈ l
  | [] => by simp [insS]
  | y :: l => by
    rw [insS]
    split
    · simp
    · rw [List.mem_cons, insS_mem, List.mem_cons]
      constructor
      · rintro (h | h | h)
        · exact .inr (.inl h)
        · exact .inl h
        · exact .inr (.inr h)
      · rintro (h | h | h)
        · exact .inr (.inl h)
        · exact .inl h
        · exact .inr (.inr h)
theorem srtI_mem {i : Int} : ∀ {l : List Int}, i ∈ srtI l ↔ i ∈ l
  | [] => by simp [srtI]
  | y :: l => by rw [srtI, insS_mem, srtI_mem, List.mem_cons]
theorem wiN_mem {s x : Nat} : (x : Int) ∈ wiN f th s ↔ x ∈ th ∧ f x s = s := by
  unfold wiN
  rw [srtI_mem, List.mem_map]
  constructor
  · rintro ⟨y, hy, e⟩
    have : y = x := by omega
    subst this
    simpa using hy
  · intro h
    exact ⟨x, by simpa using h, rfl⟩
theorem wiN_emp {s : Nat} : (wiN f th s).isEmpty = true ↔ ∀ x ∈ th, f x s ≠ s := by
  constructor
  · intro h x hx e
    have := wiN_mem (f := f) (th := th) (s := s) (x := x)
    rw [List.isEmpty_iff.mp h] at this
    cases this.mpr ⟨hx, e⟩
  · intro h
    have e : th.filter (fun v => f v s == s) = [] := List.filter_eq_nil_iff.mpr fun x hx => by simpa using h x hx
    unfold wiN
    rw [e]; rfl
theorem only {t : Nat} : ∀ {l : List Nat}, l.Nodup → l ≠ [] → (∀ x ∈ l, x = t) → l = [t]
  | [x], _, _, h => by rw [h x List.mem_cons_self]
  | x :: y :: r, hd, _, h => by
    have h1 := h x List.mem_cons_self
    have h2 := h y (List.mem_cons_of_mem _ List.mem_cons_self)
    rw [h1, h2] at hd
    exact absurd List.mem_cons_self (List.nodup_cons.mp hd).1
theorem rd_one (hT : Tb n f) (hs : SL n f) (hd : th.Nodup) (ht : ∀ x ∈ th, x < n) : ∀ {w : List Nat} {h : Nat}, w ≠ [] → h < n → (∀ y ∈ w, y < n) → (∀ t ∈ th, ∀ t' ∈ th, f t (w.foldl f h) = w.foldl f h → f t' (w.foldl f h) = w.foldl f h → t = t') →
    rdG f th h w = if (wiN f th (w.foldl f h)).isEmpty then none else some (wiN f th (w.foldl f h))
  | v :: r, h, _, hh, hw, hu => by
    have hv := hw v List.mem_cons_self
    have hr : ∀ w ∈ r, w < n := fun w hw' => hw w (List.mem_cons_of_mem _ hw')
    have hf := hT.in' _ hh _ hv
    rw [List.foldl_cons] at hu ⊢
    have hj := fold_lt hT hf hr
    have hge := fold_ge hT hs hf hr
    rw [rdG]
    cases he : (wiN f th (f h v)).isEmpty
    · simp only [Bool.false_eq_true, if_false]
      have hne : th.filter (fun x => f x (f h v) == f h v) ≠ [] := fun z => by
        unfold wiN at he
        rw [z] at he
        cases he
      obtain ⟨t, q, hq⟩ := List.exists_cons_of_ne_nil hne
      have htm : t ∈ th.filter (fun x => f x (f h v) == f h v) := by rw [hq]; simp
      have ht1 := List.mem_filter.mp htm
      have hle : ∀ x ∈ th, f x (f h v) = f h v → f x (List.foldl f (f h v) r) = List.foldl f (f h v) r := fun x hx e => le_trans' hs (ht x hx) hf hj e hge
      have htl := hle t ht1.1 (by simpa using ht1.2)
      have a1 : th.filter (fun x => f x (f h v) == f h v) = [t] := only (hd.filter _) hne fun x hx => by
        obtain ⟨h1, h2⟩ := List.mem_filter.mp hx
        exact hu x h1 t ht1.1 (hle x h1 (by simpa using h2)) htl
      have a2 : th.filter (fun x => f x (List.foldl f (f h v) r) == List.foldl f (f h v) r) = [t] := only (hd.filter _) (fun z => by
        have : t ∈ th.filter (fun x => f x (List.foldl f (f h v) r) == List.foldl f (f h v) r) := List.mem_filter.mpr ⟨ht1.1, by simpa using htl⟩
        rw [z] at this; cases this) fun x hx => by
        obtain ⟨h1, h2⟩ := List.mem_filter.mp hx
        exact hu x h1 t ht1.1 (by simpa using h2) htl
      have e : wiN f th (f h v) = wiN f th (List.foldl f (f h v) r) := by unfold wiN; rw [a1, a2]
      rw [← e, he]
      rfl
    · simp only [if_true]
      cases r with
      | nil =>
        rw [List.foldl_nil, he]
        rfl
      | cons y r => exact rd_one hT hs hd ht (by simp) hf hr hu
/-- the clash is the greatest -/
theorem cl0_top (hT : Tb n f) (hs : SL n f) {x : Nat} (hx : x < n) : f x (cl0 n f) = cl0 n f := by
  unfold cl0
  rw [jl_jn hT hs (range_ne hT) fun y hy => List.mem_range.mp hy]
  exact jn_abs hT hs (fun y hy => List.mem_range.mp hy) (List.mem_range.mpr hx)
theorem fold_self (hs : SL n f) {x : Nat} {r : List Nat} (hx : x < n) : (x :: r).foldl f x = jl f (x :: r) := by
  rw [List.foldl_cons, hs.idem x hx]; rfl
theorem rd_firm (hT : Tb n f) (hs : SL n f) (hd : th.Nodup) (ht : ∀ x ∈ th, x < n) (hF : Fm f (cl0 n f) th) {a : List Nat} (ha : a ≠ []) (hn : ∀ y ∈ a, y < n) (hj : jl f a ≠ cl0 n f) :
    rd f th a = if (wiN f th (jl f a)).isEmpty then none else some (wiN f th (jl f a)) := by
  obtain ⟨x, r, rfl⟩ := List.exists_cons_of_ne_nil ha
  have hx := hn x List.mem_cons_self
  have hl := jl_lt hT ha hn
  have e := rd_one hT hs hd ht (w := x :: r) (h := x) (by simp) hx hn
  rw [fold_self hs hx] at e
  refine e fun t h1 t' h2 e1 e2 => Decidable.byContradiction fun hne => hj ?_
  have h3 := hF t h1 t' h2 hne
  have h4 := hs.asso t t' _ (ht t h1) (ht t' h2) hl
  rw [e2, e1, h3] at h4
  have h5 := cl0_top hT hs hl
  rw [hs.comm _ _ hl (cl0_lt hT)] at h5
  rw [← h4, h5]
theorem ssI_ext {a b : List Nat} (h : (ssI (zs a) == ssI (zs b)) = true) (x : Nat) : x ∈ a ↔ x ∈ b := by
  have e := beq_iff_eq.mp h
  have m : ∀ l : List Nat, (x : Int) ∈ ssI (zs l) ↔ x ∈ l := fun l => by
    rw [ssI_mem, List.mem_map]
    constructor
    · rintro ⟨y, hy, e⟩
      have : y = x := by omega
      subst this; exact hy
    · exact fun h => ⟨x, h, rfl⟩
  rw [← m a, ← m b, e]
theorem un_firm (hT : Tb n f) (hs : SL n f) (hd : th.Nodup) (ht : ∀ x ∈ th, x < n) (hF : fmB f (cl0 n f) th = true) {d : D} : unB n f th d = false := by
  have hF : Fm f (cl0 n f) th := of_decide_eq_true hF
  rcases un_cases d with hn | ⟨xs, rfl, hx⟩ | ⟨p, q, rfl⟩
  · exact un_no1 hn
  · exact un_no2 hx
  · cases hu : unB n f th (.tup [p, q])
    · rfl
    · rw [un_two, Bool.and_eq_true, Bool.and_eq_true, Bool.and_eq_true, Bool.and_eq_true] at hu
      obtain ⟨⟨h1, h2⟩, h3, h4, h5⟩ := hu
      obtain ⟨b1, l1, rfl, n1, v1, e1⟩ := sh_ok h1
      obtain ⟨b2, l2, rfl, n2, v2, e2⟩ := sh_ok h2
      rw [e1, e2] at h3 h5
      rw [e1] at h4
      have hab := ssI_ext h3
      have hj := jl_ext hT hs n1 n2 v1 hab
      have hc : jl f l1 ≠ cl0 n f := by simpa using h4
      have r1 := rd_firm hT hs hd ht hF n1 v1 hc
      have r2 := rd_firm hT hs hd ht hF n2 v2 (by rw [← hj]; exact hc)
      rw [r1, r2, hj] at h5
      simp at h5
theorem sh_two {x y : Nat} (hx : x < n) (hy : y < n) : shB n (.lst (iL [x, y])) = true := by
  simp [shB, itD, isV, hx, hy]
theorem ns_iL {l : List Nat} : ns (.lst (iL l)) = l := by
  unfold ns
  simp only [itD, Option.getD_some, List.map_map]
  have : (num ∘ fun (x : Nat) => D.int x) = id := by funext x; simp [num]
  rw [this, List.map_id]
theorem un_loose (hT : Tb n f) (hs : SL n f) (ht : ∀ x ∈ th, x < n) {x y : Nat} (hx : x ∈ th) (hy : y ∈ th) (hne : x ≠ y) (hc : f x y ≠ cl0 n f) : unB n f th (.tup [.lst (iL [x, y]), .lst (iL [y, x])]) = true := by
  have hxn := ht x hx
  have hyn := ht y hy
  have rd1 : ∀ {a b : Nat}, a ∈ th → b ∈ th → rd f th [a, b] = some (wiN f th a) := fun {a b} ha hb => by
    rw [rd, rdG, hs.idem a (ht a ha)]
    have : (wiN f th a).isEmpty = false := by
      cases h : (wiN f th a).isEmpty
      · rfl
      · exact absurd (hs.idem a (ht a ha)) (wiN_emp.mp h a ha)
    rw [this]; rfl
  rw [un_two, sh_two hxn hyn, sh_two hyn hxn, ns_iL, ns_iL, rd1 hx hy, rd1 hy hx]
  have h1 : ssI (zs [x, y]) = ssI (zs [y, x]) := ss_ext fun i => by simp [or_comm]
  have h2 : (jl f [x, y] == cl0 n f) = false := by simpa [jl] using hc
  have h3 : wiN f th x ≠ wiN f th y := fun e => hne (by
    have a : (x : Int) ∈ wiN f th y := by rw [← e]; exact wiN_mem.mpr ⟨hx, hs.idem x hxn⟩
    have b : (y : Int) ∈ wiN f th x := by rw [e]; exact wiN_mem.mpr ⟨hy, hs.idem y hyn⟩
    have a := (wiN_mem.mp a).2
    have b := (wiN_mem.mp b).2
    rw [hs.comm _ _ hyn hxn] at b
    rw [← a, b])
  rw [h1, h2]
  simp [h3]
end K44
end Dm

namespace Dm
open PySem L2
/-- a name that holds a value, plainly or held -/
def Vs (x : Slot) (d : D) : Prop := x = .val d ∨ ∃ j, x = .pin d j
section
variable {Γ : Env} {p : Pos} {y : Str} {s2 : St} {L : List Slot} {S : List OD} {i : Nat} {d : D} {x : Slot} {as : As} {sl : List Slot}
theorem a_shx (h : L[i]? = some x) (hx : Vs x d) (ha : denAs Γ as ⟨L, S⟩ = some (sl, s2)) : denAs Γ (.share i y p as) ⟨L, S⟩ = some (.val d :: sl, s2) := by
  rcases hx with rfl | ⟨j, rfl⟩
  · exact a_shv h ha
  · exact a_shp h ha
theorem v_vx (h : L[i]? = some x) (hx : Vs x d) : den Γ (.var i y p) ⟨L, S⟩ = some (d, ⟨L, S⟩) := by
  rcases hx with rfl | ⟨j, rfl⟩
  · exact v_var h
  · exact v_pin h
theorem pk_vx (h : L[i]? = some x) (hx : Vs x d) : peekO ⟨L, S⟩ i = some (.leaf d) := by
  unfold peekO
  rcases hx with rfl | ⟨j, rfl⟩ <;> simp only [h]
theorem sl_any {xs : List D} {k : Nat} : slD (.lst xs) none (some (k : Int)) = some (.lst (xs.take k)) := by
  by_cases h : k ≤ xs.length
  · exact sl_to h
  · unfold slD cutD HT.sIx
    simp only []
    congr 2
    have hk : ¬ ((k : Int) < 0) := by omega
    simp [hk]
theorem ne_self {k : Nat} {d : D} (h : gd k d) (hk : k ≤ 64) (hr : PyData.eqv d.py d.py = true) : cmpD .NotEq d d = some (.bl false) := by
  unfold cmpD
  simp only [eqD_gd h h hk hk, hr]; rfl
end
namespace K44
variable {n m : Nat} {S : List OD} {f : Nat → Nat → Nat} {th l : List Nat}
theorem is_iL {ds : List D} (h : Is' n ds) : ds = iL (ds.map num) ∧ ∀ x ∈ ds.map num, x < n := by
  induction ds with
  | nil => exact ⟨rfl, fun x hx => by cases hx⟩
  | cons d ds ih =>
    obtain ⟨e1, e2⟩ := ih fun d hd => h d (List.mem_cons_of_mem _ hd)
    obtain ⟨k, hk, rfl⟩ := h _ List.mem_cons_self
    have hn : num (.int (k : Int)) = k := by simp [num]
    refine ⟨?_, fun x hx => ?_⟩
    · show D.int k :: ds = D.int ((num (.int (k : Int)) : Nat) : Int) :: iL (ds.map num)
      rw [hn, ← e1]
    · rw [List.map_cons, hn] at hx
      rcases List.mem_cons.mp hx with rfl | hx
      · exact hk
      · exact e2 x hx
theorem two (hT : Tb n f) (hm : 4 ≤ m) (hS : Pot S) : ∃ (a b : List Nat) (S' : List OD), Pot S' ∧ a ≠ [] ∧ b ≠ [] ∧ (∀ x ∈ a, x < n) ∧ (∀ x ∈ b, x < n) ∧ a.length ≤ 6 ∧ b.length ≤ 6 ∧ cl m 35 [.ref 0, .val (rowsD n f)] S = some (.leaf (.tup [.lst (iL a), .lst (iL b)]), S') := by
  have h7 := hT.most
  have h1 := hT.pos
  have el : bi1D .len (rowsD n f) = some (.int n) := by unfold rowsD; rw [b1L, rowsL_len]
  obtain ⟨r1, S1, hp1, hr1, ed1⟩ := draw (n := m - 1) (S := S) (by omega) (m := 4) (by omega) (by omega) hS
  obtain ⟨xs, S2, hp2, hx2, ex⟩ : ∃ ys S', Pot S' ∧ All2 (fun _ d => ∃ k : Nat, k < n ∧ d = .int k) (vals (1 + r1)) ys ∧ den (G (m - 1)) c35_0 ⟨[.ref 0, .val (rowsD n f), .no, .no], S⟩ = some (.lst ys, ⟨[.ref 0, .val (rowsD n f), .no, .no], S'⟩) := comp1 (S1 := S1)
    Pot (fun _ d => ∃ k : Nat, k < n ∧ d = .int k) (.inl rfl) (rng_ok (v_bin (v_con rfl) (v_call (a_shr rfl (a_val (v_con rfl) a_nil)) ed1) (by rw [bAdd]; simp)) (by omega)) (by rw [vals_len]; unfold sizeLine; omega) (fun v hv S hS => by
      obtain ⟨r, S', hp, hr, ed⟩ := draw (n := m - 1) (S := S) (by omega) (m := n) (by omega) (by omega) hS
      exact ⟨.int r, S', hp, ⟨r, by omega, rfl⟩, v_call (a_shr rfl (a_val (v_bi1 (fun _ _ _ z => by cases z) (v_var rfl) el) a_nil)) ed⟩) hp1
  have ix : Is' n xs := forall₂_right hx2
  have lx : xs.length = 1 + r1 := by rw [← forall₂_len hx2, vals_len]
  obtain ⟨as, S5, hp5, pa, ea⟩ := mixed (n := m - 1) (S := S2) (by omega) (xs := xs) (by omega) ix.gd hp2
  have ia : Is' n as := fun d hd => ix d (pa.mem_iff.mp hd)
  obtain ⟨r2, S3, hp3, hr2, ed2⟩ := draw (n := m - 1) (S := S5) (by omega) (m := 3) (by omega) (by omega) hp5
  obtain ⟨ys, S4, hp4, hy4, ey⟩ : ∃ ys S', Pot S' ∧ All2 (fun _ d => d ∈ xs) (vals r2) ys ∧ den (G (m - 1)) c35_1 ⟨[.ref 0, .val (rowsD n f), .val (.lst xs), .no], S5⟩ = some (.lst ys, ⟨[.ref 0, .val (rowsD n f), .val (.lst xs), .no], S'⟩) := comp1 (S1 := S3)
    Pot (fun _ d => d ∈ xs) (.inl rfl) (rng_ok (v_call (a_shr rfl (a_val (v_con rfl) a_nil)) ed2) (by omega)) (by rw [vals_len]; unfold sizeLine; omega) (fun v hv S hS => by
      obtain ⟨d, S', hp, hd, ed⟩ := pick (n := m - 1) (S := S) (by omega) (xs := xs) (fun z => by rw [z] at lx; simp at lx; omega) (by omega) hS
      exact ⟨d, S', hp, hd, v_call (a_shr rfl (a_shv rfl a_nil)) ed⟩) hp3
  have iy : ∀ d ∈ ys, d ∈ xs := forall₂_right hy4
  have ly : ys.length = r2 := by rw [← forall₂_len hy4, vals_len]
  have iz : Is' n (xs ++ ys) := fun d hd => by
    rcases List.mem_append.mp hd with hd | hd
    · exact ix d hd
    · exact ix d (iy d hd)
  obtain ⟨bs, S7, hp7, pb, eb⟩ := mixed (n := m - 1) (S := S4) (by omega) (xs := xs ++ ys) (by rw [List.length_append]; omega) iz.gd hp4
  have ib : Is' n bs := fun d hd => iz d (pb.mem_iff.mp hd)
  have la : as.length = 1 + r1 := by rw [pa.length_eq, lx]
  have lb : bs.length = 1 + r1 + r2 := by rw [pb.length_eq, List.length_append, lx, ly]
  obtain ⟨a1, a2⟩ := is_iL ia
  obtain ⟨b1, b2⟩ := is_iL ib
  refine ⟨as.map num, bs.map num, S7, hp7, fun z => ?_, fun z => ?_, a2, b2, by rw [List.length_map]; omega, by rw [List.length_map]; omega, ?_⟩
  · rw [List.map_eq_nil_iff] at z; rw [z] at la; simp at la; omega
  · rw [List.map_eq_nil_iff] at z; rw [z] at lb; simp at lb; omega
  · rw [← a1, ← b1]
    exact call_ok (d := d35) rfl (by omega) rfl ((r_nx (x_setv ex (by first | (simp; done) | (simp; decide)))).trans (r_rt (x_ret (v_tup2 (v_call (a_shr rfl (a_shv rfl a_nil)) ea) (v_call (a_shr rfl (a_val (v_bin (v_var rfl) ey (bApp (by unfold sizeLine; omega))) a_nil)) eb)))))
end K44
end Dm

namespace Dm
open PySem L2
namespace K44
variable {n m : Nat} {S : List OD} {f : Nat → Nat → Nat} {th l : List Nat}
/-! ### things -/
theorem gd_iL {k : Nat} {l : List Nat} : ∀ d ∈ iL l, gd k d := fun d hd => by
  obtain ⟨x, _, rfl⟩ := List.mem_map.mp hd
  exact gd_int
theorem Pt.sq {b : Bool} {xs : List D} (h1 : xs.length ≤ 50) (h2 : ∀ d ∈ xs, Dm.gd 3 d) : Pt (sq b xs) := ⟨by
  cases b
  · exact gd_lst h2
  · exact gd_tup h2, fun ys e => by
  rw [it_sq] at e
  cases e
  exact ⟨h1, h2⟩⟩
theorem Pt.lst {xs : List D} (h1 : xs.length ≤ 50) (h2 : ∀ d ∈ xs, Dm.gd 3 d) : Pt (.lst xs) := Pt.sq (b := false) h1 h2
theorem Pt.tup {xs : List D} (h1 : xs.length ≤ 50) (h2 : ∀ d ∈ xs, Dm.gd 3 d) : Pt (.tup xs) := Pt.sq (b := true) h1 h2
theorem Pt.iL {l : List Nat} (h : l.length ≤ 50) : Pt (.lst (iL l)) := Pt.lst (by rw [iL_len]; exact h) gd_iL
theorem Pt.non : Pt .non := ⟨gd_non, fun xs e => by cases e⟩
theorem Th.tup {xs : List D} (h1 : xs.length ≤ 50) (h2 : ∀ d ∈ xs, Pt d) : Th (.tup xs) := ⟨gd_tup fun d hd => (h2 d hd).gd, fun ys e => by cases e; exact ⟨h1, h2⟩⟩
theorem Th.lst {xs : List D} (h1 : xs.length ≤ 50) (h2 : ∀ d ∈ xs, Pt d) : Th (.lst xs) := ⟨gd_lst fun d hd => (h2 d hd).gd, fun ys e => by cases e; exact ⟨h1, h2⟩⟩
theorem Th.two {p q : D} (h1 : Pt p) (h2 : Pt q) : Th (.tup [p, q]) := Th.tup (by simp) fun d hd => by
  rcases List.mem_cons.mp hd with rfl | hd
  · exact h1
  · rw [List.mem_singleton] at hd; subst hd; exact h2
def AllTh (ds : List D) : Prop := ∀ d ∈ ds, Th d
theorem AllTh.nil : AllTh [] := fun d hd => by cases hd
theorem AllTh.cons {d : D} {ds : List D} (h : Th d) (hd : AllTh ds) : AllTh (d :: ds) := fun e he => by
  rcases List.mem_cons.mp he with rfl | he
  · exact h
  · exact hd e he
theorem AllTh.app {a b : List D} (ha : AllTh a) (hb : AllTh b) : AllTh (a ++ b) := fun d hd => (List.mem_append.mp hd).elim (ha d) (hb d)
theorem gd_00 : gd 5 (.str "00") := by
  unfold gd
  rw [D.py]
  exact ⟨by decide +kernel, by decide +kernel⟩
abbrev odd (n : Nat) : List D := [.non, .int 0, .tup [], .tup [.lst [.int 0]], .tup [.lst [.int 0], .lst []], .tup [.lst [], .lst []], .tup [.lst [.int 0], .non], .tup [.lst [.int 0], .lst [.bl true]], .tup [.lst [.int 0], .lst [.int n]], .str "00"]
theorem p0 {i : Int} : Pt (.lst [.int i]) := Pt.lst (by simp) fun d hd => by rw [List.mem_singleton] at hd; subst hd; exact gd_int
theorem p1 : Pt (.lst []) := Pt.lst (by simp) fun d hd => by cases hd
theorem p2 : Pt (.lst [.bl true]) := Pt.lst (by simp) fun d hd => by rw [List.mem_singleton] at hd; subst hd; exact gd_bl
theorem odd_ok : AllTh (odd n) := by
  refine .cons ⟨gd_non, fun xs e => by cases e⟩ (.cons ⟨gd_int, fun xs e => by cases e⟩ (.cons (.tup (by simp) fun d hd => by cases hd) (.cons (.tup (by simp) fun d hd => by rw [List.mem_singleton] at hd; subst hd; exact p0) (.cons (.two p0 p1) (.cons (.two p1 p1) (.cons (.two p0 .non) (.cons (.two p0 p2) (.cons (.two p0 p0) (.cons ⟨gd_00, fun xs e => by cases e⟩ .nil)))))))))
/-! ### whether thresholds are firm, by the law's own look -/
abbrev L36 (x1 x2 : Slot) (c : Nat) (x4 : Slot) (B : Bool) (y6 y7 y8 y9 x10 y11 y12 y13 y14 y15 y16 : Slot) : List Slot := [.ref 0, x1, x2, .val (.int c), x4, .val (.bl B), y6, y7, y8, y9, x10, y11, y12, y13, y14, y15, y16, .no, .no]
theorem firm_loop (hT : Tb n f) (hs : SL n f) (hd : th.Nodup) (ht : ∀ x ∈ th, x < n) (hth : th.length ≤ 10) : ∃ y6 y7, exec (G m) t36_1 ⟨L36 (.val (tabD n f)) (.val (rowsD n f)) (cl0 n f) (.val (.lst (iL th))) true .no .no .no .no .no .no .no .no .no .no .no, S⟩ =
    some (.nx, ⟨L36 (.val (tabD n f)) (.val (rowsD n f)) (cl0 n f) (.val (.lst (iL th))) (fmB f (cl0 n f) th) y6 y7 .no .no .no .no .no .no .no .no .no, S⟩) := by
  let I : List D → St → Prop := fun q s => ∃ (pre w : List Nat) (B : Bool) (y6 y7 : Slot), th = pre ++ w ∧ q = enumD pre.length (iL w) ∧ (B = true ↔ pre.Pairwise (fun y x => f x y = cl0 n f)) ∧ s = ⟨L36 (.val (tabD n f)) (.val (rowsD n f)) (cl0 n f) (.val (.lst (iL th))) B y6 y7 .no .no .no .no .no .no .no .no .no, S⟩
  obtain ⟨s', e1, pre, w, B, y6, y7, el, eq, hB, rfl⟩ : ∃ s', exec (G m) t36_1 ⟨L36 (.val (tabD n f)) (.val (rowsD n f)) (cl0 n f) (.val (.lst (iL th))) true .no .no .no .no .no .no .no .no .no .no .no, S⟩ = some (.nx, s') ∧ I [] s' :=
    x_for_fold (i_enuL (v_var rfl)) I ⟨[], th, true, .no, .no, rfl, rfl, by simp, rfl⟩ (fun v q s ⟨pre, w, B, y6, y7, el, eq, hB, e⟩ => by
      subst e
      cases w with
      | nil => cases eq
      | cons x w =>
        rw [iL, List.map_cons, enumD] at eq
        injection eq with e1 e2
        subst e1 e2
        have hx : x < n := ht x (by rw [el]; simp)
        have hpre : ∀ y ∈ pre, y < n := fun y hy => ht y (by rw [el]; exact List.mem_append_left _ hy)
        have hsl := sl_to (xs := iL th) (k := pre.length) (by rw [iL_len, el]; simp)
        have htk : (iL th).take pre.length = iL pre := by rw [iL_take, el, List.take_left' rfl]
        rw [htk] at hsl
        have hle : pre.length ≤ 10 := by rw [el, List.length_append] at hth; omega
        have hc : den (G m) c36_0 ⟨L36 (.val (tabD n f)) (.val (rowsD n f)) (cl0 n f) (.val (.lst (iL th))) B (.val (.int pre.length)) (.val (.int x)) .no .no .no .no .no .no .no .no .no, S⟩ = some (.lst ((iL pre).map fun d => .bl (f x (num d) == cl0 n f)), ⟨L36 (.val (tabD n f)) (.val (rowsD n f)) (cl0 n f) (.val (.lst (iL th))) B (.val (.int pre.length)) (.val (.int x)) .no .no .no .no .no .no .no .no .no, S⟩) :=
          comp1p _ (.inl rfl) (i_e (v_slU (v_var rfl) (v_var rfl) hsl) rfl) (by rw [iL_len]; unfold sizeLine; omega) fun d hd => by
            obtain ⟨z, hz, rfl⟩ := List.mem_map.mp hd
            have e : num (.int (z : Int)) = z := by simp [num]
            rw [e]
            exact v_cmp (fun _ _ _ z => by cases z) (fun _ _ _ z => by cases z) (v_sub (fun _ _ _ z => by cases z) (v_sub (fun _ _ _ z => by cases z) (v_var rfl) (v_var rfl) (rx hT hx)) (v_var rfl) (ry (hpre z hz))) (v_var rfl) eq_nat
        have hall := allBl_map (ds := iL pre) (p := fun d => f x (num d) == cl0 n f)
        have hiff : ((iL pre).all fun d => f x (num d) == cl0 n f) = true ↔ ∀ y ∈ pre, f x y = cl0 n f := by
          rw [List.all_eq_true]
          constructor
          · intro h y hy
            have := h _ (List.mem_map.mpr ⟨y, hy, rfl⟩)
            simpa [num] using this
          · intro h d hd
            obtain ⟨y, hy, rfl⟩ := List.mem_map.mp hd
            simpa [num] using h y hy
        have hpw : (pre ++ [x]).Pairwise (fun y x => f x y = cl0 n f) ↔ pre.Pairwise (fun y x => f x y = cl0 n f) ∧ ∀ y ∈ pre, f x y = cl0 n f := by
          rw [List.pairwise_append]
          simp
        cases B with
        | false =>
          refine ⟨_, _, rfl, r_end (x_setv (v_and_f (v_var rfl)) (by first | (simp; done) | (simp; decide))), pre ++ [x], w, false, _, _, by rw [el]; simp, by rw [List.length_append]; rfl, ?_, rfl⟩
          rw [hpw, ← hB]
          simp
        | true =>
          refine ⟨_, _, rfl, r_end (x_setv (v_and_t (v_var rfl) (v_bi1 (fun _ _ _ z => by cases z) hc hall)) (by first | (simp; done) | (simp; decide))), pre ++ [x], w, _, _, _, by rw [el]; simp, by rw [List.length_append]; rfl, ?_, rfl⟩
          rw [hpw, ← hB, hiff]
          simp)
  have : w = [] := by cases w with
    | nil => rfl
    | cons => rw [iL, List.map_cons, enumD] at eq; cases eq
  subst this
  rw [List.append_nil] at el
  subst el
  have e : B = fmB f (cl0 n f) th := by
    refine Bool.eq_iff_iff.mpr (hB.trans ?_)
    unfold fmB
    rw [decide_eq_true_iff]
    exact ⟨fun h => pw_fm hs ht h, fun h => fm_pw hd h⟩
  subst e
  exact ⟨_, _, e1⟩
end K44
end Dm

namespace Dm
open PySem L2
theorem cat_ok {xs ys : List D} (h : xs.length + ys.length ≤ 100) : catF (.lst xs) (.lst ys) = some (xs ++ ys) := by
  unfold catF
  simp only []
  rw [if_pos (by unfold sizeLine; omega)]
theorem v_ownF {Γ : Env} {p : Pos} {y : Str} {L : List Slot} {S : List OD} {i : Nat} {ds : List D} (h : L[i]? = some (.own (.fl ds))) : den Γ (.var i y p) ⟨L, S⟩ = some (.lst ds, ⟨L.set i (.val (.lst ds)), S⟩) := v_own h
namespace K44
variable {n m : Nat} {S : List OD} {f : Nat → Nat → Nat} {th l : List Nat}
/-! ### all things are judged right -/
theorem judge_loop (hT : Tb n f) (hs : SL n f) (hm : 9 ≤ m) (hd : th.Nodup) (ht : ∀ x ∈ th, x < n) (hth : th.length ≤ 10) {ds : List D} (hds : AllTh ds) {B : Bool} (hB : ∀ d, B = true → unB n f th d = false) {x1 x2 x4 y6 y7 y8 y9 x10 y11 x12 y13 y14 y15 y16 : Slot} (h1 : Vs x1 (tabD n f)) (h2 : Vs x2 (rowsD n f)) (h4 : Vs x4 (.lst (iL th)))
    (h12 : x12 = .own (.fl ds)) : ∃ z9 z12 z14 z15, exec (G m) t36_10 ⟨L36 x1 x2 (cl0 n f) x4 B y6 y7 y8 y9 x10 y11 x12 y13 y14 y15 y16, S⟩ = some (.nx, ⟨L36 x1 x2 (cl0 n f) x4 B y6 y7 y8 z9 x10 y11 z12 y13 z14 z15 y16, S⟩) := by
  subst h12
  let I : List D → St → Prop := fun q s => AllTh q ∧ ∃ y9 y14 y15, s = ⟨L36 x1 x2 (cl0 n f) x4 B y6 y7 y8 y9 x10 y11 (.val (.lst ds)) y13 y14 y15 y16, S⟩
  obtain ⟨s', e1, -, y9', y14', y15', rfl⟩ : ∃ s', exec (G m) t36_10 ⟨L36 x1 x2 (cl0 n f) x4 B y6 y7 y8 y9 x10 y11 (.own (.fl ds)) y13 y14 y15 y16, S⟩ = some (.nx, s') ∧ I [] s' :=
    x_for_fold (i_e (v_own rfl) rfl) I ⟨hds, _, _, _, rfl⟩ (fun v q s ⟨hq, y9, y14, y15, e⟩ => by
      subst e
      have hv := hq v List.mem_cons_self
      have c1 := sp34 (S := S) hT (m := m) (by omega) ht hth hv
      have c2 := sp30 (S := S) hT hs (m := m) (by omega) hd ht hth hv
      generalize hu : unB n f th v = u at c1 c2
      have g1 : exec (G m) u36_11 ⟨L36 x1 x2 (cl0 n f) x4 B y6 y7 y8 y9 x10 y11 (.val (.lst ds)) y13 (.val v) y15 y16, S⟩ = some (.nx, ⟨L36 x1 x2 (cl0 n f) x4 B y6 y7 y8 y9 x10 y11 (.val (.lst ds)) y13 (.val v) (.val (.bl u)) y16, S⟩) :=
        x_setv (v_call (a_shx rfl h2 (a_shv rfl (a_shx rfl h4 (a_shv rfl a_nil)))) c1) (by first | (simp; done) | (simp; decide))
      have g2 : exec (G m) u36_12 ⟨L36 x1 x2 (cl0 n f) x4 B y6 y7 y8 y9 x10 y11 (.val (.lst ds)) y13 (.val v) (.val (.bl u)) y16, S⟩ = some (.nx, ⟨L36 x1 x2 (cl0 n f) x4 B y6 y7 y8 (.own (.fl [.bl u])) x10 y11 (.val (.lst ds)) y13 (.val v) (.val (.bl u)) y16, S⟩) :=
        x_set (oe_f (f_lst (e_cons (v_call (a_shx rfl h1 (a_shx rfl h4 (a_shv rfl a_nil))) c2) e_nil) (by simp))) (by first | (simp; done) | (simp; decide))
      have g3 : exec (G m) u36_13 ⟨L36 x1 x2 (cl0 n f) x4 B y6 y7 y8 (.own (.fl [.bl u])) x10 y11 (.val (.lst ds)) y13 (.val v) (.val (.bl u)) y16, S⟩ = some (.nx, ⟨L36 x1 x2 (cl0 n f) x4 B y6 y7 y8 (.own (.fl [.bl u, .bl u])) x10 y11 (.val (.lst ds)) y13 (.val v) (.val (.bl u)) y16, S⟩) :=
        x_exp (v_mth1 rfl (v_callK (k_cons (v_var rfl) (k_cons (v_vx rfl h4) (k_cons (v_vx rfl h1) k_nil))) rfl c2) rfl (mm_append (by simp)))
      have g4 : exec (G m) u36_15 ⟨L36 x1 x2 (cl0 n f) x4 B y6 y7 y8 (.own (.fl [.bl u, .bl u])) x10 y11 (.val (.lst ds)) y13 (.val v) (.val (.bl u)) y16, S⟩ = some (.nx, ⟨L36 x1 x2 (cl0 n f) x4 B y6 y7 y8 (.own (.fl [.bl u, .bl u])) x10 y11 (.val (.lst ds)) y13 (.val v) (.val (.bl u)) y16, S⟩) := by
        refine x_skip (v_or_f (v_cmpB (fun _ _ _ z => by cases z) rfl (v_lst2 (v_var rfl) (v_var rfl)) rfl ne_bl2) ?_)
        cases B with
        | false => exact v_and_f (v_var rfl)
        | true =>
          have := hB v rfl
          rw [hu] at this
          subst this
          exact v_and_t (v_var rfl) (v_var rfl)
      exact ⟨_, _, rfl, (r_nx g1).trans ((r_nx g2).trans ((r_nx g3).trans (r_end g4))), fun d hd => hq d (List.mem_cons_of_mem _ hd), _, _, _, rfl⟩)
  exact ⟨_, _, _, _, e1⟩
theorem tr_ok {x : Nat} : ∃ d, gd 3 d ∧ ∀ {Γ : Env} {L : List Slot} {s : Str} {p p1 p2 p3 p4 p5 p6 p7 : Pos} {k1 k2 i : Nat}, L[i]? = some (.val (.int x)) → den Γ (.ife (.cmp (.var i s p1) .Lt (.con (.int 2) k1 p2) p3) (.cmp (.var i s p4) .Eq (.con (.int 1) k2 p5) p6) (.var i s p7) p) ⟨L, S⟩ = some (d, ⟨L, S⟩) := by
  by_cases h : x < 2
  · exact ⟨.bl (x == 1), gd_bl, fun hl => v_ife_t (v_cmp (fun _ _ _ z => by cases z) (fun _ _ _ z => by cases z) (v_var hl) (v_con rfl) (by simp [cmpD, cmpI]; omega)) (v_cmp (fun _ _ _ z => by cases z) (fun _ _ _ z => by cases z) (v_var hl) (v_con rfl) (eq_nat (b := 1)))⟩
  · exact ⟨.int x, gd_int, fun hl => v_ife_f (v_cmp (fun _ _ _ z => by cases z) (fun _ _ _ z => by cases z) (v_var hl) (v_con rfl) (by simp [cmpD, cmpI]; omega)) (v_var hl)⟩
/-- what comes of a told pair -/
theorem told_ok (hT : Tb n f) (hm : 9 ≤ m) (ht : ∀ x ∈ th, x < n) (hth : th.length ≤ 10) {a b : Nat} (hu : unB n f th (.tup [.lst (iL [a, b]), .lst (iL [b, a])]) = true) {ds : List D} (hds : AllTh ds) (hl : ds.length ≤ 20) {B : Bool} {x1 x2 x4 y6 y7 y8 y9 x10 y11 x12 y14 y15 y16 : Slot} (h1 : Vs x1 (tabD n f)) (h2 : Vs x2 (rowsD n f)) (h4 : Vs x4 (.lst (iL th)))
    (h10 : Vs x10 (.tup [.lst (iL [a, b]), .lst (iL [b, a])])) (h12 : x12 = .own (.fl ds)) :
    ∃ z7 z8 z13 ds', AllTh ds' ∧ exec (G m) t36_9 ⟨L36 x1 x2 (cl0 n f) x4 B y6 y7 y8 y9 x10 y11 x12 .no y14 y15 y16, S⟩ = some (.nx, ⟨L36 x1 x2 (cl0 n f) x4 B y6 z7 z8 y9 x10 y11 (.own (.fl ds')) z13 y14 y15 y16, S⟩) := by
  subst h12
  have pab : Pt (.lst (iL [a, b])) := Pt.iL (by simp)
  have pba : Pt (.lst (iL [b, a])) := Pt.iL (by simp)
  have c1 := sp34 (S := S) hT (m := m) (by omega) ht hth (d := .tup [.lst (iL [a, b]), .lst (iL [b, a])]) (.two pab pba)
  rw [hu] at c1
  have i0 : ixD (.tup [.lst (iL [a, b]), .lst (iL [b, a])]) (.int (0 : Nat)) = some (.lst (iL [a, b])) := ix_t rfl
  have i1 : ixD (.tup [.lst (iL [a, b]), .lst (iL [b, a])]) (.int (1 : Nat)) = some (.lst (iL [b, a])) := ix_t rfl
  have g1 : exec (G m) u36_4 ⟨L36 x1 x2 (cl0 n f) x4 B y6 y7 y8 y9 x10 y11 (.own (.fl ds)) .no y14 y15 y16, S⟩ = some (.nx, ⟨L36 x1 x2 (cl0 n f) x4 B y6 y7 y8 y9 x10 y11 (.own (.fl ds)) .no y14 y15 y16, S⟩) :=
    x_skip (v_notT (v_call (a_shx rfl h2 (a_shv rfl (a_shx rfl h4 (a_val (v_vx rfl h10) a_nil)))) c1))
  have g2 : exec (G m) u36_5 ⟨L36 x1 x2 (cl0 n f) x4 B y6 y7 y8 y9 x10 y11 (.own (.fl ds)) .no y14 y15 y16, S⟩ = some (.nx, ⟨L36 x1 x2 (cl0 n f) x4 B y6 (.val (.lst (iL [a, b]))) (.val (.lst (iL [b, a]))) y9 x10 y11 (.own (.fl ds)) .no y14 y15 y16, S⟩) :=
    x_par2 (oe_v (v_conv (v_subB (pk_vx rfl h10) (v_con rfl) (pk_vx rfl h10) i0) rfl)) (oe_v (v_conv (v_subB (pk_vx rfl h10) (v_con rfl) (pk_vx rfl h10) i1) rfl)) (by first | (simp; done) | (simp; decide)) (by first | (simp; done) | (simp; decide))
  have sl1 : slD (.lst (iL [a, b])) none (some ((1 : Nat) : Int)) = some (.lst (iL [a])) := sl_to (k := 1) (by simp)
  have sl2 : slD (.lst (iL [b, a])) (some ((1 : Nat) : Int)) none = some (.lst (iL [a])) := sl_from (k := 1) (by simp)
  have b1 : binD .Add (.lst (iL [a, b])) (.lst (iL [a])) = some (.lst (iL [a, b, a])) := bApp (by simp [sizeLine])
  have b2 : binD .Add (.lst (iL [b, a])) (.lst [.int (cl0 n f)]) = some (.lst (iL [b, a, cl0 n f])) := bApp (by simp [sizeLine])
  let d1 : List D := ds ++ [.tup [.lst (iL [a, b]), .lst (iL [b, a])], .tup [.lst (iL [b, a]), .lst (iL [a, b])], .tup [.lst (iL [a, b]), .lst (iL [a, b])], .lst [.lst (iL [a, b]), .lst (iL [b, a])], .tup [.lst (iL [a, b, a]), .lst (iL [b, a])], .tup [.lst (iL [a, b]), .lst (iL [a])]]
  have hd1 : AllTh d1 := hds.app (.cons (.two pab pba) (.cons (.two pba pab) (.cons (.two pab pab) (.cons (.lst (by simp) fun d hd => by
      rcases List.mem_cons.mp hd with rfl | hd
      · exact pab
      · rw [List.mem_singleton] at hd; subst hd; exact pba) (.cons (.two (Pt.iL (by simp)) pba) (.cons (.two pab (Pt.iL (by simp))) .nil))))))
  have hl1 : d1.length = ds.length + 6 := by simp only [d1, List.length_append, List.length_cons, List.length_nil]
  have g3 : exec (G m) u36_6 ⟨L36 x1 x2 (cl0 n f) x4 B y6 (.val (.lst (iL [a, b]))) (.val (.lst (iL [b, a]))) y9 x10 y11 (.own (.fl ds)) .no y14 y15 y16, S⟩ = some (.nx, ⟨L36 x1 x2 (cl0 n f) x4 B y6 (.val (.lst (iL [a, b]))) (.val (.lst (iL [b, a]))) y9 x10 y11 (.own (.fl d1)) .no y14 y15 y16, S⟩) :=
    x_set (oe_f (f_bin (v_ownF rfl) (v_lst (e_cons (v_vx rfl h10) (e_cons (v_tup2 (v_var rfl) (v_var rfl)) (e_cons (v_tup2 (v_var rfl) (v_var rfl)) (e_cons (v_lst2 (v_var rfl) (v_var rfl)) (e_cons (v_tup2 (v_bin (v_var rfl) (v_slU (v_var rfl) (v_con rfl) sl1) b1) (v_var rfl)) (e_cons (v_tup2 (v_var rfl) (v_slD (v_var rfl) (v_con rfl) sl2)) e_nil)))))) (by simp)) (cat_ok (by simp only [List.length_cons, List.length_nil]; omega)))) (by first | (simp; done) | (simp; decide))
  let d2 : List D := d1 ++ [.tup [.lst (iL [a, b]), .lst (iL [b, a, cl0 n f])], .tup [.lst (iL [a, b]), .lst (iL [b, a]), .lst (iL [a, b])]]
  have hd2 : AllTh d2 := hd1.app (.cons (.two pab (Pt.iL (by simp))) (.cons (.tup (by simp) fun d hd => by
      rcases List.mem_cons.mp hd with rfl | hd
      · exact pab
      · rcases List.mem_cons.mp hd with rfl | hd
        · exact pba
        · rw [List.mem_singleton] at hd; subst hd; exact pab) .nil))
  have hl2 : d2.length = ds.length + 8 := by simp only [d2, List.length_append, List.length_cons, List.length_nil, hl1]
  have g4 : exec (G m) u36_7 ⟨L36 x1 x2 (cl0 n f) x4 B y6 (.val (.lst (iL [a, b]))) (.val (.lst (iL [b, a]))) y9 x10 y11 (.own (.fl d1)) .no y14 y15 y16, S⟩ = some (.nx, ⟨L36 x1 x2 (cl0 n f) x4 B y6 (.val (.lst (iL [a, b]))) (.val (.lst (iL [b, a]))) y9 x10 y11 (.own (.fl d2)) .no y14 y15 y16, S⟩) :=
    x_set (oe_f (f_bin (v_ownF rfl) (v_lst (e_cons (v_tup2 (v_var rfl) (v_bin (v_var rfl) (v_lst1 (v_var rfl)) b2)) (e_cons (v_tup (e_cons (v_var rfl) (e_cons (v_var rfl) (e_cons (v_var rfl) e_nil))) (by simp)) e_nil)) (by simp)) (cat_ok (by simp only [List.length_cons, List.length_nil]; omega)))) (by first | (simp; done) | (simp; decide))
  obtain ⟨ta, ga, ea⟩ := tr_ok (S := S) (x := a)
  obtain ⟨tb, gb, eb⟩ := tr_ok (S := S) (x := b)
  have hc : den (G m) c36_2 ⟨L36 x1 x2 (cl0 n f) x4 B y6 (.val (.lst (iL [a, b]))) (.val (.lst (iL [b, a]))) y9 x10 y11 (.own (.fl d2)) .no y14 y15 y16, S⟩ = some (.lst [ta, tb], ⟨L36 x1 x2 (cl0 n f) x4 B y6 (.val (.lst (iL [a, b]))) (.val (.lst (iL [b, a]))) y9 x10 y11 (.own (.fl d2)) .no y14 y15 y16, S⟩) :=
    comp2 (.inl rfl) (i_e (v_var rfl) rfl) (ea rfl) (eb rfl)
  have pt : Pt (.lst [ta, tb]) := Pt.lst (by simp) fun d hd => by
    rcases List.mem_cons.mp hd with rfl | hd
    · exact ga
    · rw [List.mem_singleton] at hd; subst hd; exact gb
  let d3 : List D := d2 ++ [.tup [.lst [ta, tb], .lst (iL [b, a])], .tup [.lst (iL [b, a]), .lst [ta, tb]], .tup [.tup (iL [a, b]), .tup (iL [b, a])]]
  have hd3 : AllTh d3 := hd2.app (.cons (.two pt pba) (.cons (.two pba pt) (.cons (.two (Pt.tup (by simp) gd_iL) (Pt.tup (by simp) gd_iL)) .nil)))
  have g5 : exec (G m) u36_8 ⟨L36 x1 x2 (cl0 n f) x4 B y6 (.val (.lst (iL [a, b]))) (.val (.lst (iL [b, a]))) y9 x10 y11 (.own (.fl d2)) .no y14 y15 y16, S⟩ = some (.nx, ⟨L36 x1 x2 (cl0 n f) x4 B y6 (.val (.lst (iL [a, b]))) (.val (.lst (iL [b, a]))) y9 x10 y11 (.own (.fl d2)) (.val (.lst [ta, tb])) y14 y15 y16, S⟩) := x_setv hc (by first | (simp; done) | (simp; decide))
  have g6 : exec (G m) u36_9 ⟨L36 x1 x2 (cl0 n f) x4 B y6 (.val (.lst (iL [a, b]))) (.val (.lst (iL [b, a]))) y9 x10 y11 (.own (.fl d2)) (.val (.lst [ta, tb])) y14 y15 y16, S⟩ = some (.nx, ⟨L36 x1 x2 (cl0 n f) x4 B y6 (.val (.lst (iL [a, b]))) (.val (.lst (iL [b, a]))) y9 x10 y11 (.own (.fl d3)) (.val (.lst [ta, tb])) y14 y15 y16, S⟩) :=
    x_set (oe_f (f_bin (v_ownF rfl) (v_lst (e_cons (v_tup2 (v_var rfl) (v_var rfl)) (e_cons (v_tup2 (v_var rfl) (v_var rfl)) (e_cons (v_tup2 (v_conv (v_var rfl) rfl) (v_conv (v_var rfl) rfl)) e_nil))) (by simp)) (cat_ok (by simp only [List.length_cons, List.length_nil]; omega)))) (by first | (simp; done) | (simp; decide))
  have hlt : cmpD .Lt (.int (2 + 2)) (.int 900) = some (.bl true) := rfl
  have g7 : exec (G m) u36_10 ⟨L36 x1 x2 (cl0 n f) x4 B y6 (.val (.lst (iL [a, b]))) (.val (.lst (iL [b, a]))) y9 x10 y11 (.own (.fl d2)) .no y14 y15 y16, S⟩ = some (.nx, ⟨L36 x1 x2 (cl0 n f) x4 B y6 (.val (.lst (iL [a, b]))) (.val (.lst (iL [b, a]))) y9 x10 y11 (.own (.fl d3)) (.val (.lst [ta, tb])) y14 y15 y16, S⟩) :=
    x_iff_t (v_cmp (fun _ _ _ z => by cases z) (fun _ _ _ z => by cases z) (v_bin (v_bi1 (fun _ _ _ z => by cases z) (v_var rfl) b1L) (v_bi1 (fun _ _ _ z => by cases z) (v_var rfl) b1L) bAdd) (v_con rfl) hlt) ((r_nx g5).trans (r_end g6))
  exact ⟨_, _, _, d3, hd3, x_iff_t (v_cmpB (fun _ _ _ z => by cases z) (pk_vx rfl h10) (v_con rfl) (pk_vx rfl h10) rfl) ((r_nx g1).trans ((r_nx g2).trans ((r_nx g3).trans ((r_nx g4).trans (r_end g7)))))⟩
end K44
end Dm

namespace Dm
open PySem L2
theorem x_spl_n {Γ : Env} {j mm : Nm} {kt kn : Nat} {pt pb q1 q2 q3 q4 q5 q6 qn q7 q8 q9 p : Pos} {L : List Slot} {S : List OD} (h : L[j.i]? = some (.val .non)) : exec Γ (.spl j kt pt pb mm q1 q2 q3 q4 q5 q6 kn qn q7 q8 q9 p) ⟨L, S⟩ = some (.nx, ⟨L, S⟩) := by
  rw [exec]
  unfold splM
  simp only [h]
theorem x_spl_o {Γ : Env} {j mm : Nm} {kt kn : Nat} {pt pb q1 q2 q3 q4 q5 q6 qn q7 q8 q9 p : Pos} {L : List Slot} {S : List OD} {os : List OD} (h : L[j.i]? = some (.own (.nt os))) (h1 : os.all (splO os.length) = true) (h2 : os ≠ []) (h3 : mm.i < L.length) : exec Γ (.spl j kt pt pb mm q1 q2 q3 q4 q5 q6 kn qn q7 q8 q9 p) ⟨L, S⟩ = some (.nx, ⟨(L.set j.i .no).set mm.i .no, S⟩) := by
  rw [exec]
  unfold splM
  simp only [h]
  rw [if_pos ⟨h1, h2, h3⟩]
theorem v_callKl {Γ : Env} {f n : Nat} {x : Str} {p q : Pos} {ks : Ks} {π : List Nat} {s : St} {ds : List D} {L : List Slot} {S S' : List OD} {d : D} (h : denKs Γ ks s = some (ds, ⟨L, S⟩)) (hl : (perm π ds).length = n) (hc : Γ.call f ((perm π ds).map .val) S = some (.leaf d, S')) : den Γ (.callK f x p ks n π q) s = some (d, ⟨L, S'⟩) := v_callK h hl hc
namespace K44
variable {n m : Nat} {S : List OD} {f : Nat → Nat → Nat} {th l : List Nat}
abbrev fdD (a b : Nat) : D := .tup [.lst (iL [a, b]), .lst (iL [b, a])]
theorem body_ok (hT : Tb n f) (hs : SL n f) (hm : 9 ≤ m) (hd : th.Nodup) (ht : ∀ x ∈ th, x < n) (hth : th.length ≤ 10) {fd : D} {B : Bool} (hfd : fd = .non ∨ ∃ a b, fd = fdD a b ∧ unB n f th (fdD a b) = true) (hB : ∀ d, B = true → unB n f th d = false) {x1 x2 x4 y6 y7 y9 x10 : Slot} (h1 : Vs x1 (tabD n f)) (h2 : Vs x2 (rowsD n f)) (h4 : Vs x4 (.lst (iL th))) (h10 : Vs x10 fd) (hS : Pot S) :
    ∃ z7 z8 z9 z11 z12 z13 z14 z15 S', Pot S' ∧ execs (G m) s36_8 ⟨L36 x1 x2 (cl0 n f) x4 B y6 y7 .no y9 x10 .no .no .no .no .no .no, S⟩ = some (.nx, ⟨L36 x1 x2 (cl0 n f) x4 B y6 z7 z8 z9 x10 z11 z12 z13 z14 z15 .no, S'⟩) := by
  obtain ⟨ys, S1, hS1, hy, ey⟩ : ∃ ys S', Pot S' ∧ All2 (fun _ d => Th d) (vals 4) ys ∧ den (G m) c36_1 ⟨L36 x1 x2 (cl0 n f) x4 B y6 y7 .no y9 x10 .no .no .no .no .no .no, S⟩ = some (.lst ys, ⟨L36 x1 x2 (cl0 n f) x4 B y6 y7 .no y9 x10 .no .no .no .no .no .no, S'⟩) := comp1 (S1 := S)
    Pot (fun _ d => Th d) (.inl rfl) (rng_ok (k := 4) (v_con rfl) (by omega)) (by rw [vals_len]; unfold sizeLine; omega) (fun v hv S hS => by
      obtain ⟨a, b, S', hp, _, _, _, _, la, lb, e⟩ := two (m := m) (S := S) hT (by omega) hS
      exact ⟨_, S', hp, Th.two (Pt.iL (by omega)) (Pt.iL (by omega)), v_call (a_shr rfl (a_shx rfl h2 a_nil)) e⟩) hS
  have ly : ys.length = 4 := by rw [← forall₂_len hy, vals_len]
  have ty : AllTh ys := forall₂_right hy
  have g1 : exec (G m) t36_6 ⟨L36 x1 x2 (cl0 n f) x4 B y6 y7 .no y9 x10 .no .no .no .no .no .no, S⟩ = some (.nx, ⟨L36 x1 x2 (cl0 n f) x4 B y6 y7 .no y9 x10 (.val (.lst ys)) .no .no .no .no .no, S1⟩) := x_setv ey (by first | (simp; done) | (simp; decide))
  have en : den (G m) (.bi1 .len (P 252 12 15) (.var 2 "_law_rows" (P 252 1 2)) (P 252 1 2)) ⟨L36 x1 x2 (cl0 n f) x4 B y6 y7 .no y9 x10 (.val (.lst ys)) .no .no .no .no .no, S1⟩ = some (.int n, ⟨L36 x1 x2 (cl0 n f) x4 B y6 y7 .no y9 x10 (.val (.lst ys)) .no .no .no .no .no, S1⟩) := v_bi1 (fun _ _ _ z => by cases z) (v_vx rfl h2) rows_len
  have g2 : exec (G m) t36_7 ⟨L36 x1 x2 (cl0 n f) x4 B y6 y7 .no y9 x10 (.val (.lst ys)) .no .no .no .no .no, S1⟩ = some (.nx, ⟨L36 x1 x2 (cl0 n f) x4 B y6 y7 .no y9 x10 (.val (.lst ys)) (.own (.fl (ys ++ odd n))) .no .no .no .no, S1⟩) :=
    x_set (oe_f (f_bin (v_var rfl) (v_lst (e_cons (v_con rfl) (e_cons (v_con rfl) (e_cons (v_tup e_nil (by simp)) (e_cons (v_tup (e_cons (v_lst1 (v_con rfl)) e_nil) (by simp)) (e_cons (v_tup2 (v_lst1 (v_con rfl)) (v_lst e_nil (by simp))) (e_cons (v_tup2 (v_lst e_nil (by simp)) (v_lst e_nil (by simp))) (e_cons (v_tup2 (v_lst1 (v_con rfl)) (v_con rfl)) (e_cons (v_tup2 (v_lst1 (v_con rfl)) (v_lst1 (v_con rfl))) (e_cons (v_tup2 (v_lst1 (v_con rfl)) (v_lst1 (v_bi1 (fun _ _ _ z => by cases z) (v_vx rfl h2) rows_len))) (e_cons (v_con rfl) e_nil)))))))))) (by simp)) (cat_ok (by rw [ly]; simp)))) (by first | (simp; done) | (simp; decide))
  have hdl : (ys ++ odd n).length = 14 := by rw [List.length_append, ly]; rfl
  have g3 : exec (G m) t36_8 ⟨L36 x1 x2 (cl0 n f) x4 B y6 y7 .no y9 x10 (.val (.lst ys)) (.own (.fl (ys ++ odd n))) .no .no .no .no, S1⟩ = some (.nx, ⟨L36 x1 x2 (cl0 n f) x4 B y6 y7 .no y9 x10 (.val (.lst ys)) (.own (.fl (ys ++ odd n ++ [.tup [.lst [.int n], .lst [.int n]]]))) .no .no .no .no, S1⟩) :=
    x_exp (v_mth1 rfl (v_tup2 (v_lst1 (v_bi1 (fun _ _ _ z => by cases z) (v_vx rfl h2) rows_len)) (v_lst1 (v_bi1 (fun _ _ _ z => by cases z) (v_vx rfl h2) rows_len))) rfl (mm_append (by rw [hdl]; omega)))
  have hds : AllTh (ys ++ odd n ++ [.tup [.lst [.int n], .lst [.int n]]]) := (ty.app odd_ok).app (.cons (.two p0 p0) .nil)
  have hdl2 : (ys ++ odd n ++ [D.tup [.lst [.int n], .lst [.int n]]]).length ≤ 20 := by rw [List.length_append, hdl]; simp
  generalize hq : ys ++ odd n ++ [D.tup [.lst [.int n], .lst [.int n]]] = ds at g3 hds hdl2
  obtain ⟨z7, z8, z13, ds', hds', g4⟩ : ∃ z7 z8 z13 ds', AllTh ds' ∧ exec (G m) t36_9 ⟨L36 x1 x2 (cl0 n f) x4 B y6 y7 .no y9 x10 (.val (.lst ys)) (.own (.fl ds)) .no .no .no .no, S1⟩ = some (.nx, ⟨L36 x1 x2 (cl0 n f) x4 B y6 z7 z8 y9 x10 (.val (.lst ys)) (.own (.fl ds')) z13 .no .no .no, S1⟩) := by
    rcases hfd with rfl | ⟨a, b, rfl, hu⟩
    · exact ⟨_, _, _, ds, hds, x_skip (v_cmpB (fun _ _ _ z => by cases z) (pk_vx rfl h10) (v_con rfl) (pk_vx rfl h10) rfl)⟩
    · exact told_ok hT hm ht hth hu hds hdl2 h1 h2 h4 h10 rfl
  obtain ⟨z9, z12, z14, z15, g5⟩ := judge_loop (S := S1) hT hs hm hd ht hth hds' hB (y6 := y6) (y7 := z7) (y8 := z8) (y9 := y9) (x10 := x10) (y11 := .val (.lst ys)) (y13 := z13) (y14 := .no) (y15 := .no) (y16 := .no) h1 h2 h4 rfl
  exact ⟨_, _, _, _, _, _, _, _, S1, hS1, (r_nx g1).trans ((r_nx g2).trans ((r_nx g3).trans ((r_nx g4).trans (r_end g5))))⟩
theorem is_told {o : OD} {B : Bool} (ho : (o = .leaf .non ∧ B = true) ∨ ∃ (x y : Nat), o = .nt [.fl (iL [x, y]), .fl (iL [y, x])] ∧ x ∈ th ∧ y ∈ th ∧ x ≠ y ∧ f x y ≠ cl0 n f ∧ B = false) : cmpD .Is o.toD .non = some (.bl B) := by
  rcases ho with ⟨rfl, rfl⟩ | ⟨x, y, rfl, _, _, _, _, rfl⟩ <;> rfl
theorem fd_th {a b : Nat} : Th (fdD a b) := Th.two (Pt.iL (by simp)) (Pt.iL (by simp))
/-- the end -/
theorem tail_ok (hT : Tb n f) (hs : SL n f) (hm : 9 ≤ m) (hd : th.Nodup) (ht : ∀ x ∈ th, x < n) (hth : th.length ≤ 10) {r0 w6 w7 w8 w9 w10 w11 w12 w13 w14 w15 w16 w17 w18 : Slot} : exec (G m) t36_12 ⟨[r0, .val (tabD n f), .val (rowsD n f), .val (.int (cl0 n f)), .val (.lst (iL th)), .val (.bl (fmB f (cl0 n f) th)), w6, w7, w8, w9, w10, w11, w12, w13, w14, w15, w16, w17, w18], S⟩ =
    some (.rt (.leaf (.bl true)), ⟨[r0, .val (tabD n f), .val (rowsD n f), .val (.int (cl0 n f)), .val (.lst (iL th)), .val (.bl (fmB f (cl0 n f) th)), w6, w7, w8, w9, w10, w11, w12, w13, w14, w15, w16, w17, w18], S⟩) := by
  obtain ⟨o, e, ho⟩ := sp28 (S := S) (b := false) hT hs (m := m) (by omega) hd ht
  rcases ho with ⟨rfl, h⟩ | ⟨x, y, rfl, hx, hy, hne, hc, hB⟩
  · rw [h]
    exact x_ret (v_or_t (v_var rfl))
  · rw [hB]
    have c1 := sp34 (S := S) hT (m := m) (by omega) ht hth (fd_th (a := x) (b := y))
    rw [un_loose hT hs ht hx hy hne hc] at c1
    exact x_ret (v_or_f (v_var rfl) (v_call (a_shv rfl (a_shv rfl (a_shv rfl (a_val (v_callO (a_shv rfl (a_shv rfl a_nil)) e) a_nil)))) c1))
theorem rev_iL : revD (.lst (iL th)) = some (.lst (iL th.reverse)) := by
  simp [revD, iL, List.map_reverse]
theorem firm_right (hT : Tb n f) (hs : SL n f) (hm : 12 ≤ m) (hd : th.Nodup) (ht : ∀ x ∈ th, x < n) (hth : th.length ≤ 10) (hS : Pot S) : ∃ S', Pot S' ∧ cl m 36 [.ref 0, .val (tabD n f), .val (rowsD n f), .val (.int (cl0 n f)), .val (.lst (iL th))] S = some (.leaf (.bl true), S') := by
  obtain ⟨y6, y7, g1⟩ := firm_loop (S := S) (m := m - 1) hT hs hd ht hth
  have f1 := sp27 (S := S) (b := false) hT hs (m := m - 1) (by omega) hd ht
  have f2 := sp27 (S := S) (b := true) (th := th.reverse) hT hs (m := m - 1) (by omega) ((List.reverse_perm th).nodup_iff.mpr hd) (fun x hx => ht x (by simpa using hx))
  have ef : fmB f (cl0 n f) th.reverse = fmB f (cl0 n f) th := by unfold fmB; exact decide_eq_decide.mpr fm_rev
  rw [ef] at f2
  obtain ⟨o, e28, ho⟩ := sp28 (S := S) (b := false) hT hs (m := m - 1) (by omega) hd ht
  obtain ⟨o', e28', ho'⟩ := sp28 (S := S) (b := false) hT hs (m := m - 1) (by omega) hd ht
  have hB : ∀ d, fmB f (cl0 n f) th = true → unB n f th d = false := fun d h => un_firm hT hs hd ht h
  have tail (S : List OD) {r0 w6 w7 w8 w9 w10 w11 w12 w13 w14 w15 w16 w17 w18 : Slot} := tail_ok (S := S) (m := m - 1) hT hs (by omega) hd ht hth (r0 := r0) (w6 := w6) (w7 := w7) (w8 := w8) (w9 := w9) (w10 := w10) (w11 := w11) (w12 := w12) (w13 := w13) (w14 := w14) (w15 := w15) (w16 := w16) (w17 := w17) (w18 := w18)
  generalize hfm : fmB f (cl0 n f) th = B at *
  have g0 : exec (G (m - 1)) t36_0 ⟨[.ref 0, .val (tabD n f), .val (rowsD n f), .val (.int (cl0 n f)), .val (.lst (iL th)), .no, .no, .no, .no, .no, .no, .no, .no, .no, .no, .no, .no, .no, .no], S⟩ = some (.nx, ⟨L36 (.val (tabD n f)) (.val (rowsD n f)) (cl0 n f) (.val (.lst (iL th))) true .no .no .no .no .no .no .no .no .no .no .no, S⟩) := x_setv (v_con rfl) (by first | (simp; done) | (simp; decide))
  have g2 : exec (G (m - 1)) t36_2 ⟨L36 (.val (tabD n f)) (.val (rowsD n f)) (cl0 n f) (.val (.lst (iL th))) B y6 y7 .no .no .no .no .no .no .no .no .no, S⟩ = some (.nx, ⟨L36 (.val (tabD n f)) (.val (rowsD n f)) (cl0 n f) (.val (.lst (iL th))) B y6 y7 .no (.own (.fl [.bl B, .bl B])) .no .no .no .no .no .no .no, S⟩) :=
    x_set (oe_f (f_lst (e_cons (v_call (a_shv rfl (a_shv rfl a_nil)) f1) (e_cons (v_callKl (k_cons (v_conv (v_rev (v_var rfl) rev_iL) rfl) (k_cons (v_var rfl) k_nil)) rfl f2) e_nil)) (by simp))) (by first | (simp; done) | (simp; decide))
  have key : ∀ (x10 : Slot), o.slot = some x10 → exec (G (m - 1)) t36_3 ⟨L36 (.val (tabD n f)) (.val (rowsD n f)) (cl0 n f) (.val (.lst (iL th))) B y6 y7 .no (.own (.fl [.bl B, .bl B])) .no .no .no .no .no .no .no, S⟩ = some (.nx, ⟨L36 (.val (tabD n f)) (.val (rowsD n f)) (cl0 n f) (.val (.lst (iL th))) B y6 y7 .no (.own (.fl [.bl B, .bl B])) x10 .no .no .no .no .no .no, S⟩) := fun x10 h =>
    x_set (c_call (a_shv rfl (a_shv rfl a_nil)) e28 h) (by first | (simp; done) | (simp; decide))
  have key2 : ∀ (x10 : Slot), peekO ⟨L36 (.val (tabD n f)) (.val (rowsD n f)) (cl0 n f) (.val (.lst (iL th))) B y6 y7 .no (.own (.fl [.bl B, .bl B])) x10 .no .no .no .no .no .no, S⟩ 10 = some o → exec (G (m - 1)) t36_4 ⟨L36 (.val (tabD n f)) (.val (rowsD n f)) (cl0 n f) (.val (.lst (iL th))) B y6 y7 .no (.own (.fl [.bl B, .bl B])) x10 .no .no .no .no .no .no, S⟩ = some (.nx, ⟨L36 (.val (tabD n f)) (.val (rowsD n f)) (cl0 n f) (.val (.lst (iL th))) B y6 y7 .no (.own (.fl [.bl B, .bl B])) x10 .no .no .no .no .no .no, S⟩) := fun x10 h =>
    x_skip (v_or_f (v_cmpB (fun _ _ _ z => by cases z) rfl (v_lst2 (v_var rfl) (v_var rfl)) rfl ne_bl2) (v_cmp (fun _ _ _ z => by cases z) (fun _ _ _ z => by cases z) (v_cmpB (fun _ _ _ z => by cases z) h (v_con rfl) h (is_told ho)) (v_var rfl) ne_bl))
  have key3 : ∀ (x10 : Slot), exec (G (m - 1)) t36_5 ⟨L36 (.val (tabD n f)) (.val (rowsD n f)) (cl0 n f) (.val (.lst (iL th))) B y6 y7 .no (.own (.fl [.bl B, .bl B])) x10 .no .no .no .no .no .no, S⟩ = some (.nx, ⟨L36 (.val (tabD n f)) (.val (rowsD n f)) (cl0 n f) (.val (.lst (iL th))) B y6 y7 .no (.own (.fl [.bl B, .bl B])) x10 .no .no .no .no .no .no, S⟩) := fun x10 =>
    x_skip (v_cmp (fun _ _ _ z => by cases z) (fun _ _ _ z => by cases z) (v_cmp (fun _ _ _ z => by cases z) (fun _ _ _ z => by cases z) (v_callK (k_cons (v_var rfl) (k_cons (v_var rfl) k_nil)) rfl e28') (v_con rfl) (is_told ho')) (v_var rfl) ne_bl)
  rcases ho with ⟨rfl, h⟩ | ⟨x, y, rfl, hx, hy, hne, hc, hBf⟩
  · obtain ⟨z7, z8, z9, z11, z12, z13, z14, z15, S', hS', gb⟩ := body_ok (m := m - 1) (S := S) hT hs (by omega) hd ht hth (fd := .non) (B := B) (.inl rfl) hB (x1 := .val (tabD n f)) (x2 := .val (rowsD n f)) (x4 := .val (.lst (iL th))) (y6 := y6) (y7 := y7) (y9 := .own (.fl [.bl B, .bl B])) (x10 := .val .non) (.inl rfl) (.inl rfl) (.inl rfl) (.inl rfl) hS
    exact ⟨S', hS', call_ok (d := d36) rfl (by omega) rfl ((r_nx g0).trans ((r_nx g1).trans ((r_nx g2).trans ((r_nx (key _ rfl)).trans ((r_nx (key2 _ rfl)).trans ((r_nx (key3 _)).trans ((x_blk_v rfl gb).trans ((r_nx (x_spl_n rfl)).trans (r_rt (tail S')))))))))) ⟩
  · obtain ⟨z, hz⟩ := hS.one
    have hone : ∀ {S' : List OD}, Pot S' → S'.length = 1 := fun h => by obtain ⟨o, rfl⟩ := h.one; rfl
    have hl := hone hS
    obtain ⟨z7, z8, z9, z11, z12, z13, z14, z15, S', hS', gb⟩ := body_ok (m := m - 1) (S := S) hT hs (by omega) hd ht hth (fd := fdD x y) (B := B) (.inr ⟨x, y, rfl, un_loose hT hs ht hx hy hne hc⟩) hB (x1 := .pin (tabD n f) (S.length + 1)) (x2 := .pin (rowsD n f) (S.length + 1 + 1)) (x4 := .pin (.lst (iL th)) (S.length + 1 + 1 + 1)) (y6 := dropS S.length y6) (y7 := dropS S.length y7) (y9 := .no) (x10 := .pin (fdD x y) S.length) (.inr ⟨_, rfl⟩) (.inr ⟨_, rfl⟩) (.inr ⟨_, rfl⟩) (.inr ⟨_, rfl⟩) hS
    have hp : pinL ((L36 (.val (tabD n f)) (.val (rowsD n f)) (cl0 n f) (.val (.lst (iL th))) B y6 y7 .no (.own (.fl [.bl B, .bl B])) (.own (.nt [.fl (iL [x, y]), .fl (iL [y, x])])) .no .no .no .no .no .no).map (dropS S.length)) (S.length + 1) [1, 2, 4] = some ([.ref 0, .pin (tabD n f) (S.length + 1), .pin (rowsD n f) (S.length + 1 + 1), .val (.int (cl0 n f)), .pin (.lst (iL th)) (S.length + 1 + 1 + 1), .val (.bl B), dropS S.length y6, dropS S.length y7, .no, .no, .no, .no, .no, .no, .no, .no, .no, .no, .no], [tabD n f, rowsD n f, .lst (iL th)]) := by
      rw [hl]; rfl
    have gbk := x_blk_o (Γ := G (m - 1)) (L := L36 (.val (tabD n f)) (.val (rowsD n f)) (cl0 n f) (.val (.lst (iL th))) B y6 y7 .no (.own (.fl [.bl B, .bl B])) (.own (.nt [.fl (iL [x, y]), .fl (iL [y, x])])) .no .no .no .no .no .no) (S := S) (j := 10) (P := [1, 2, 4]) (tb := .cons t36_11 (.cons t36_12 .nil)) rfl hp gb hS'.flat (by rw [hone hS', hl]; exact Nat.le_refl 1) (by simp [isPin])
    obtain ⟨L', gt⟩ : ∃ L', execs (G (m - 1)) (.blk 10 [1, 2, 4] s36_8 (.cons t36_11 (.cons t36_12 .nil))) ⟨L36 (.val (tabD n f)) (.val (rowsD n f)) (cl0 n f) (.val (.lst (iL th))) B y6 y7 .no (.own (.fl [.bl B, .bl B])) (.own (.nt [.fl (iL [x, y]), .fl (iL [y, x])])) .no .no .no .no .no .no, S⟩ = some (.rt (.leaf (.bl true)), ⟨L', S'⟩) := by
      rw [gbk, hl]
      exact ⟨_, (r_nx (x_spl_o rfl rfl (by simp) (by first | (simp; done) | (simp; decide)))).trans (r_rt (tail S'))⟩
    exact ⟨S', hS', call_ok (d := d36) rfl (by omega) rfl ((r_nx g0).trans ((r_nx g1).trans ((r_nx g2).trans ((r_nx (key _ rfl)).trans ((r_nx (key2 _ rfl)).trans ((r_nx (key3 _)).trans gt))))))⟩
end K44
end Dm

namespace Dm
open PySem L2
theorem v_nnaT {Γ : Env} {p1 p2 p3 pk pn : Pos} {x : Str} {L : List Slot} {S : List OD} {j k kk kn : Nat} {neg t : Bool} {os : List OD} {o : OD} (h : L[j]? = some (.own (.nl os))) (ho : os[k]? = some o) (ht : (if neg then !o.isNon else o.isNon) = t) : den Γ (.nna j x p1 k kk pk p2 neg kn pn p3) ⟨L, S⟩ = some (.bl t, ⟨L, S⟩) := by
  rw [← ht]; exact v_nna h ho
namespace K44
variable {n m : Nat} {S : List OD} {f : Nat → Nat → Nat} {th l : List Nat}
abbrev L37 (n : Nat) (f : Nat → Nat → Nat) (x5 y6 y7 y8 y9 y10 y11 y12 : Slot) : List Slot := [.ref 0, .val (rowsD n f), .val (tabD n f), .val (.lst (vals n)), .val (.int (cl0 n f)), x5, y6, y7, y8, y9, y10, y11, y12]
/-! ### values that lie apart -/
theorem perm_iL {ys : List D} (h : ys.Perm (vals n)) : ∃ ns : List Nat, ys = iL ns ∧ ns.Nodup ∧ (∀ x ∈ ns, x < n) ∧ ns.length = n := by
  obtain ⟨ns, e, p⟩ := perm_vals h
  exact ⟨ns, e, p.nodup_iff.mpr List.nodup_range, fun x hx => List.mem_range.mp (p.mem_iff.mp hx), by rw [p.length_eq, List.length_range]⟩
theorem apart_loop (hT : Tb n f) (hm : 3 ≤ m) (hS : Pot S) : ∃ (ap : List Nat) (y6 : Slot) (S' : List OD), Pot S' ∧ ap.Nodup ∧ (∀ x ∈ ap, x < n) ∧ ap.length ≤ 7 ∧ exec (G m) t37_3 ⟨L37 n f (.own (.fl [])) .no .no .no .no .no .no .no, S⟩ = some (.nx, ⟨L37 n f (.own (.fl (iL ap))) y6 .no .no .no .no .no .no, S'⟩) := by
  have h7 := hT.most
  obtain ⟨ys, S1, hS1, py, e24⟩ := mixed (n := m) (S := S) (by omega) (xs := vals n) (by rw [vals_len]; omega) (fun d hd => by obtain ⟨k, _, rfl⟩ := vals_mem hd; exact gd_int) hS
  obtain ⟨ns, rfl, nd, hn, hl⟩ := perm_iL py
  let I : List D → St → Prop := fun q s => ∃ (ap w : List Nat) (y6 : Slot), q = iL w ∧ (ap ++ w).Nodup ∧ (∀ x ∈ ap ++ w, x < n) ∧ (ap ++ w).length ≤ 7 ∧ s = ⟨L37 n f (.own (.fl (iL ap))) y6 .no .no .no .no .no .no, S1⟩
  obtain ⟨s', e1, ap, w, y6, ew, h1, h2, h3, rfl⟩ : ∃ s', exec (G m) t37_3 ⟨L37 n f (.own (.fl [])) .no .no .no .no .no .no .no, S⟩ = some (.nx, s') ∧ I [] s' :=
    x_for_fold (i_e (v_call (a_shr rfl (a_shv rfl a_nil)) e24) rfl) I ⟨[], ns, .no, rfl, nd, hn, by rw [List.nil_append]; omega, rfl⟩ (fun v q s ⟨ap, w, y6, ew, h1, h2, h3, e⟩ => by
      subst e
      cases w with
      | nil => cases ew
      | cons x w =>
        injection ew with e1 e2
        subst e1 e2
        have hx : x < n := h2 x (by simp)
        have hap : ∀ y ∈ ap, y < n := fun y hy => h2 y (List.mem_append_left _ hy)
        have hle : ap.length ≤ 7 := by rw [List.length_append] at h3; omega
        have hc : den (G m) c37_0 ⟨L37 n f (.val (.lst (iL ap))) (.val (.int x)) .no .no .no .no .no .no, S1⟩ = some (.lst ((iL ap).map fun d => .bl (f x (num d) == cl0 n f)), ⟨L37 n f (.val (.lst (iL ap))) (.val (.int x)) .no .no .no .no .no .no, S1⟩) :=
          comp1p _ (.inl rfl) (i_e (v_var rfl) rfl) (by rw [iL_len]; unfold sizeLine; omega) fun d hd => by
            obtain ⟨z, hz, rfl⟩ := List.mem_map.mp hd
            have e : num (.int (z : Int)) = z := by simp [num]
            rw [e]
            exact v_cmp (fun _ _ _ z => by cases z) (fun _ _ _ z => by cases z) (v_sub (fun _ _ _ z => by cases z) (v_sub (fun _ _ _ z => by cases z) (v_var rfl) (v_var rfl) (rx hT hx)) (v_var rfl) (ry (hap z hz))) (v_var rfl) eq_nat
        have hall := allBl_map (ds := iL ap) (p := fun d => f x (num d) == cl0 n f)
        cases hb : (iL ap).all fun d => f x (num d) == cl0 n f
        · rw [hb] at hall
          refine ⟨_, _, rfl, r_end (x_exr rfl rfl (v_ife_f (v_bi1 (fun _ _ _ z => by cases z) hc hall) (v_lst e_nil (by simp))) rfl hS1.flat (by rw [iL_len]; simp; omega)), ap, w, .val (.int x), rfl, ?_, fun y hy => h2 y ?_, ?_, ?_⟩
          · exact h1.sublist (List.Sublist.append_left (List.sublist_cons_self _ _) _)
          · rcases List.mem_append.mp hy with h | h
            · exact List.mem_append_left _ h
            · exact List.mem_append_right _ (List.mem_cons_of_mem _ h)
          · rw [List.length_append] at h3 ⊢; rw [List.length_cons] at h3; omega
          · rw [List.append_nil]; rfl
        · rw [hb] at hall
          refine ⟨_, _, rfl, r_end (x_exr rfl rfl (v_ife_t (v_bi1 (fun _ _ _ z => by cases z) hc hall) (v_lst1 (v_var rfl))) rfl hS1.flat (by rw [iL_len]; simp; omega)), ap ++ [x], w, .val (.int x), rfl, ?_, fun y hy => h2 y ?_, ?_, ?_⟩
          · rw [List.append_assoc]; exact h1
          · rw [List.append_assoc] at hy; exact hy
          · rw [List.append_assoc]; exact h3
          · have e : iL (ap ++ [x]) = iL ap ++ [.int x] := List.map_append
            rw [e]; rfl)
  have : w = [] := by cases w with
    | nil => rfl
    | cons => cases ew
  subst this
  rw [List.append_nil] at h1 h2 h3
  exact ⟨ap, y6, S1, hS1, h1, h2, h3, e1⟩
/-! ### readings, told in three ways -/
theorem rd_self {r : Option (List Int)} : cmpD .NotEq (rdD r) (rdD r) = some (.bl false) := by rw [ne_rd]; simp
theorem rd_eqv {r : Option (List Int)} : PyData.eqv (rdD r).py (rdD r).py = true := by
  have h := eqD_gd (gd_rd (r := r)) (gd_rd (r := r)) (by omega) (by omega)
  have h2 := rd_self (r := r)
  unfold cmpD at h2
  simp only [h] at h2
  simpa using h2
theorem rd_two {r : Option (List Int)} : cmpD .NotEq (.lst [rdD r, rdD r]) (.lst [rdD r, rdD r]) = some (.bl false) := by
  refine ne_self (k := 2) (gd_lst fun d hd => ?_) (by omega) ?_
  · rcases List.mem_cons.mp hd with rfl | hd
    · exact gd_rd
    · rw [List.mem_singleton] at hd; subst hd; exact gd_rd
  · rw [D.py, PyData.eqv]
    exact eqv_all_refl fun d hd => by
      rcases List.mem_cons.mp hd with rfl | hd
      · exact rd_eqv
      · rw [List.mem_singleton] at hd; subst hd; exact rd_eqv
def rdS : Option (List Int) → Slot
  | none => .val .non
  | some ds => .own (.fl (ds.map D.int))
theorem rd_slot {r : Option (List Int)} : (rdO r).slot = some (rdS r) := by cases r <;> rfl
theorem rd_len (ht : th.length ≤ 10) : ∀ {w : List Nat} {h : Nat} {ds : List Int}, rdG f th h w = some ds → ds.length ≤ 10
  | [], _, _, e => by cases e
  | v :: r, h, ds, e => by
    rw [rdG] at e
    split at e
    · exact rd_len ht e
    · cases e
      have hi : ∀ (l : List Int) (x : Int), (insS x l).length = l.length + 1 := fun l x => by
        induction l with
        | nil => rfl
        | cons y l ih =>
          rw [insS]
          split
          · rfl
          · rw [List.length_cons, ih, List.length_cons]
      have hs : ∀ l : List Int, (srtI l).length = l.length := fun l => by
        induction l with
        | nil => rfl
        | cons y l ih => rw [srtI, hi, ih, List.length_cons]
      unfold wiN
      rw [hs, List.length_map]
      exact Nat.le_trans (List.length_filter_le _ _) ht
theorem turn_loop (hT : Tb n f) (hs : SL n f) (hm : 9 ≤ m) (hd : th.Nodup) (ht : ∀ x ∈ th, x < n) (hth : th.length ≤ 10) {x5 y6 y7 y9 y10 y11 y12 : Slot} (hS : Pot S) : ∃ z7 z9 z10 z11 z12 S', Pot S' ∧ exec (G m) u37_11 ⟨L37 n f x5 y6 y7 (.val (.lst (iL th))) y9 y10 y11 y12, S⟩ = some (.nx, ⟨L37 n f x5 y6 z7 (.val (.lst (iL th))) z9 z10 z11 z12, S'⟩) := by
  let I : List D → St → Prop := fun q s => ∃ z7 z9 z10 z11 z12 S', Pot S' ∧ s = ⟨L37 n f x5 y6 z7 (.val (.lst (iL th))) z9 z10 z11 z12, S'⟩
  obtain ⟨s', e1, z7, z9, z10, z11, z12, S', hS', rfl⟩ : ∃ s', exec (G m) u37_11 ⟨L37 n f x5 y6 y7 (.val (.lst (iL th))) y9 y10 y11 y12, S⟩ = some (.nx, s') ∧ I [] s' :=
    x_for_fold (rng_ok (k := 3) (v_con rfl) (by omega)) I ⟨_, _, _, _, _, S, hS, rfl⟩ (fun v q s ⟨y7, y9, y10, y11, y12, S, hS, e⟩ => by
      subst e
      obtain ⟨a, b, S1, hS1, na, nb, va, vb, la, lb, e35⟩ := two (m := m) (S := S) hT (by omega) hS
      have ra := sp32 (S := S1) hT (m := m) (by omega) ht hth na va
      have rb := sp32 (S := S1) hT (m := m) (by omega) ht hth nb vb
      have pa := sp19 (S := S1) (b := false) (c := false) hT hs (m := m) (by omega) hd ht hth na (by omega) va
      have pa' := sp19 (S := S1) (b := true) (c := true) hT hs (m := m) (by omega) hd ht hth na (by omega) va
      have pb := sp19 (S := S1) (b := false) (c := false) hT hs (m := m) (by omega) hd ht hth nb (by omega) vb
      have hlen : ∀ ds, rd f th a = some ds → ds.length ≤ 10 := fun ds e => by
        cases a with
        | nil => exact absurd rfl na
        | cons x r => exact rd_len hth e
      generalize hr : rd f th a = r at ra pa pa' hlen
      generalize hq : rd f th b = q at rb pb
      have g1 : exec (G m) u37_1 ⟨L37 n f x5 y6 y7 (.val (.lst (iL th))) (.val v) y10 y11 y12, S⟩ = some (.nx, ⟨L37 n f x5 y6 (.val (.lst (iL a))) (.val (.lst (iL th))) (.val v) (.val (.lst (iL b))) y11 y12, S1⟩) :=
        x_asg (v_call (a_shr rfl (a_shv rfl a_nil)) e35) rfl
      have g2 : exec (G m) u37_2 ⟨L37 n f x5 y6 (.val (.lst (iL a))) (.val (.lst (iL th))) (.val v) (.val (.lst (iL b))) y11 y12, S1⟩ = some (.nx, ⟨L37 n f x5 y6 (.val (.lst (iL a))) (.val (.lst (iL th))) (.val v) (.val (.lst (iL b))) (.val (rdD r)) y12, S1⟩) :=
        x_setv (v_call (a_shv rfl (a_shv rfl (a_shv rfl a_nil))) ra) (by first | (simp; done) | (simp; decide))
      have g3 : exec (G m) u37_3 ⟨L37 n f x5 y6 (.val (.lst (iL a))) (.val (.lst (iL th))) (.val v) (.val (.lst (iL b))) (.val (rdD r)) y12, S1⟩ = some (.nx, ⟨L37 n f x5 y6 (.val (.lst (iL a))) (.val (.lst (iL th))) (.val v) (.val (.lst (iL b))) (.val (rdD r)) (.own (.nl [rdO r])), S1⟩) :=
        x_set (oe_dl (os := [rdO r]) (oes_cons (c_call (a_shv rfl (a_shv rfl (a_shv rfl a_nil))) pa rd_slot) oes_nil) (slots_one rd_slot) (by simp)) (by first | (simp; done) | (simp; decide))
      have g4 : exec (G m) u37_4 ⟨L37 n f x5 y6 (.val (.lst (iL a))) (.val (.lst (iL th))) (.val v) (.val (.lst (iL b))) (.val (rdD r)) (.own (.nl [rdO r])), S1⟩ = some (.nx, ⟨L37 n f x5 y6 (.val (.lst (iL a))) (.val (.lst (iL th))) (.val v) (.val (.lst (iL b))) (.val (rdD r)) (.own (.nl [rdO r, rdO r])), S1⟩) :=
        x_apo (os := [rdO r]) (os' := [rdO r]) rfl (c_callK (k_cons (v_conv (v_var rfl) rfl) (k_cons (v_conv (v_var rfl) rfl) (k_cons (v_var rfl) k_nil))) rfl pa' rd_slot) rfl (slots_one rd_slot) (by simp)
      have t2 : (OD.nl [rdO r, rdO r]).toD = .lst [rdD r, rdD r] := by simp [OD.toD, OD.toDs, rdO_toD]
      have c1 : cmpD .NotEq (OD.nl [rdO r, rdO r]).toD (.lst [rdD r, rdD r]) = some (.bl false) := by rw [t2]; exact rd_two
      have c2 : cmpD .NotEq (rdO q).toD (rdD q) = some (.bl false) := by rw [rdO_toD]; exact rd_self
      have c3 : cmpD .NotEq (rdO r).toD (rdD r) = some (.bl false) := by rw [rdO_toD]; exact rd_self
      have g5 : exec (G m) u37_6 ⟨L37 n f x5 y6 (.val (.lst (iL a))) (.val (.lst (iL th))) (.val v) (.val (.lst (iL b))) (.val (rdD r)) (.own (.nl [rdO r, rdO r])), S1⟩ = some (.nx, ⟨L37 n f x5 y6 (.val (.lst (iL a))) (.val (.lst (iL th))) (.val v) (.val (.lst (iL b))) (.val (rdD r)) (.own (.nl [rdO r, rdO r])), S1⟩) :=
        x_skip (v_or_f (v_cmpB (fun _ _ _ z => by cases z) rfl (v_lst2 (v_var rfl) (v_var rfl)) rfl c1) (v_cmp (fun _ _ _ z => by cases z) (fun _ _ _ z => by cases z) (v_callO (a_shv rfl (a_shv rfl (a_shv rfl a_nil))) pb) (v_call (a_shv rfl (a_shv rfl (a_shv rfl a_nil))) rb) c2))
      obtain ⟨w12, g6⟩ : ∃ w12, exec (G m) u37_8 ⟨L37 n f x5 y6 (.val (.lst (iL a))) (.val (.lst (iL th))) (.val v) (.val (.lst (iL b))) (.val (rdD r)) (.own (.nl [rdO r, rdO r])), S1⟩ = some (.nx, ⟨L37 n f x5 y6 (.val (.lst (iL a))) (.val (.lst (iL th))) (.val v) (.val (.lst (iL b))) (.val (rdD r)) w12, S1⟩) := by
        cases r with
        | none => exact ⟨_, x_skip (v_nnaT rfl rfl rfl)⟩
        | some ds => exact ⟨_, x_iff_t (v_nnaT rfl rfl rfl) (r_end (x_apa (ds := ds.map D.int) rfl rfl (by have := hlen ds rfl; rw [List.length_map]; omega) rfl))⟩
      have g7 : exec (G m) u37_10 ⟨L37 n f x5 y6 (.val (.lst (iL a))) (.val (.lst (iL th))) (.val v) (.val (.lst (iL b))) (.val (rdD r)) w12, S1⟩ = some (.nx, ⟨L37 n f x5 y6 (.val (.lst (iL a))) (.val (.lst (iL th))) (.val v) (.val (.lst (iL b))) (.val (rdD r)) w12, S1⟩) :=
        x_skip (v_cmp (fun _ _ _ z => by cases z) (fun _ _ _ z => by cases z) (v_callO (a_shv rfl (a_shv rfl (a_shv rfl a_nil))) pa) (v_var rfl) c3)
      exact ⟨_, _, rfl, (r_nx g1).trans ((r_nx g2).trans ((r_nx g3).trans ((r_nx g4).trans ((r_nx g5).trans ((r_nx g6).trans (r_end g7)))))), _, _, _, _, _, S1, hS1, rfl⟩)
  exact ⟨_, _, _, _, _, S', hS', e1⟩
theorem right (hm : 20 ≤ m) (hS : Pot S) : ∃ S', Pot S' ∧ cl m 37 [.ref 0] S = some (.leaf (.bl true), S') := by
  obtain ⟨n, f, S1, hT, hs, hS1, e1⟩ := melting (m := m - 1) (by omega) hS
  have h7 := hT.most
  have h1 := hT.pos
  obtain ⟨o1, ho1⟩ := hS1.one
  have et : (OD.ll ((List.range n).map fun x => rowL n (f x))).toD = rowsD n f := by
    simp [OD.toD, rowsD, rowsL, List.map_map, Function.comp_def]
  have g0 : exec (G (m - 1)) t37_0 ⟨[.ref 0, .no, .no, .no, .no, .no, .no, .no, .no, .no, .no, .no, .no], S⟩ = some (.nx, ⟨[.ref 0, .val (rowsD n f), .no, .no, .no, .no, .no, .no, .no, .no, .no, .no, .no], S1⟩) := by
    have := v_callO (Γ := G (m - 1)) (x := "_law_melting") (p := P 274 16 28) (q := P 274 16 43) (as := .share 0 "_law_pot_here" (P 274 29 42) .nil) (s := ⟨[.ref 0, .no, .no, .no, .no, .no, .no, .no, .no, .no, .no, .no, .no], S⟩) (a_shr rfl a_nil) e1
    rw [et] at this
    exact x_setv this (by first | (simp; done) | (simp; decide))
  have g1 : exec (G (m - 1)) t37_1 ⟨[.ref 0, .val (rowsD n f), .no, .no, .no, .no, .no, .no, .no, .no, .no, .no, .no], S1⟩ = some (.nx, ⟨[.ref 0, .val (rowsD n f), .val (tabD n f), .val (.lst (vals n)), .no, .no, .no, .no, .no, .no, .no, .no, .no], S1⟩) := by
    have hmk := new_tab (m := m - 1) hT (by omega) (o := o1) (L := [.ref 0, .val (rowsD n f), .no, .no, .no, .no, .no, .no, .no, .no, .no, .no, .no])
    rw [← ho1] at hmk
    exact x_par2 (oe_v (v_new (a_shv rfl a_nil) hmk)) (oe_v (v_lrng (v_bi1 (fun _ _ _ z => by cases z) (v_var rfl) rows_len) (lrng_ok h7))) (by first | (simp; done) | (simp; decide)) (by first | (simp; done) | (simp; decide))
  have g2 : exec (G (m - 1)) t37_2 ⟨[.ref 0, .val (rowsD n f), .val (tabD n f), .val (.lst (vals n)), .no, .no, .no, .no, .no, .no, .no, .no, .no], S1⟩ = some (.nx, ⟨L37 n f (.own (.fl [])) .no .no .no .no .no .no .no, S1⟩) :=
    x_par2 (oe_v (v_call (a_shv rfl (a_shv rfl a_nil)) (sp31 hT (by omega) (range_ne hT) fun y hy => List.mem_range.mp hy))) (oe_f (f_lst e_nil (by simp))) (by first | (simp; done) | (simp; decide)) (by first | (simp; done) | (simp; decide))
  obtain ⟨ap, y6, S2, hS2, nd, hn, hl, g3⟩ := apart_loop (m := m - 1) (S := S1) hT (by omega) hS1
  obtain ⟨ys, S3, hS3, py, e24⟩ := mixed (n := m - 1) (S := S2) (by omega) (xs := vals n) (by rw [vals_len]; omega) (fun d hd => by obtain ⟨k, _, rfl⟩ := vals_mem hd; exact gd_int) hS2
  obtain ⟨ns, rfl, nd2, hn2, hl2⟩ := perm_iL py
  obtain ⟨r1, S4, hS4, hr1, ed1⟩ := draw (n := m - 1) (S := S3) (by omega) (m := 4) (by omega) (by omega) hS3
  obtain ⟨r2, S5, hS5, hr2, ed2⟩ := draw (n := m - 1) (S := S4) (by omega) (m := 4) (by omega) (by omega) hS4
  have q1 := sl_any (xs := iL ns) (k := r1)
  have q2 := sl_any (xs := iL ap) (k := 1 + r2)
  rw [iL_take] at q1 q2
  have a1 : binD .Add (.int 1) (.int r2) = some (.int ((1 + r2 : Nat) : Int)) := by rw [bAdd]; simp
  let I : List D → St → Prop := fun q s => (∀ d ∈ q, ∃ th : List Nat, d = .lst (iL th) ∧ th.Nodup ∧ (∀ x ∈ th, x < n) ∧ th.length ≤ 10) ∧ ∃ x5 y6 z7 z8 z9 z10 z11 z12 S', Pot S' ∧ s = ⟨L37 n f x5 y6 z7 z8 z9 z10 z11 z12, S'⟩
  obtain ⟨s', g4, -, x5, y6', z7, z8, z9, z10, z11, z12, S6, hS6, rfl⟩ : ∃ s', exec (G (m - 1)) t37_4 ⟨L37 n f (.own (.fl (iL ap))) y6 .no .no .no .no .no .no, S2⟩ = some (.nx, s') ∧ I [] s' :=
    x_for_fold (i_e (v_lst2 (v_slU (v_call (a_shr rfl (a_shv rfl a_nil)) e24) (v_call (a_shr rfl (a_val (v_con rfl) a_nil)) ed1) q1) (v_slU (v_ownF rfl) (v_bin (v_con rfl) (v_call (a_shr rfl (a_val (v_con rfl) a_nil)) ed2) a1) q2)) rfl) I ⟨fun d hd => by
        rcases List.mem_cons.mp hd with rfl | hd
        · exact ⟨_, rfl, nd2.sublist (List.take_sublist _ _), fun x hx => hn2 x (List.mem_of_mem_take hx), by rw [List.length_take]; omega⟩
        · rw [List.mem_singleton] at hd
          subst hd
          exact ⟨_, rfl, nd.sublist (List.take_sublist _ _), fun x hx => hn x (List.mem_of_mem_take hx), by rw [List.length_take]; omega⟩, _, _, _, _, _, _, _, _, S5, hS5, rfl⟩ (fun v q s ⟨hq, x5, y6, z7, z8, z9, z10, z11, z12, S, hS, e⟩ => by
      subst e
      obtain ⟨th, rfl, hd, ht, hth⟩ := hq v List.mem_cons_self
      obtain ⟨w7, w9, w10, w11, w12, S1, hS1, k1⟩ := turn_loop (m := m - 1) (S := S) hT hs (by omega) hd ht hth (x5 := x5) (y6 := y6) (y7 := z7) (y9 := z9) (y10 := z10) (y11 := z11) (y12 := z12) hS
      obtain ⟨S2, hS2, k2⟩ := firm_right (m := m - 1) (S := S1) hT hs (by omega) hd ht hth hS1
      exact ⟨_, _, rfl, (r_nx k1).trans (r_end (x_skip (v_notT (v_call (a_shr rfl (a_shv rfl (a_shv rfl (a_shv rfl (a_shv rfl a_nil))))) k2)))), fun d hd => hq d (List.mem_cons_of_mem _ hd), _, _, _, _, _, _, _, _, S2, hS2, rfl⟩)
  obtain ⟨o6, ho6⟩ := hS6.one
  have mk := new_tab (m := m - 1) hT (by omega) (o := o6) (L := L37 n f x5 y6' z7 z8 z9 z10 z11 z12)
  rw [← ho6] at mk
  exact ⟨S6, hS6, call_ok (d := d37) rfl (by omega) rfl ((r_nx g0).trans ((r_nx g1).trans ((r_nx g2).trans ((r_nx g3).trans ((r_nx g4).trans (r_rt (x_ret (v_eqO (v_var rfl) (v_new (a_shv rfl a_nil) mk) (sp7 (by omega)))))))))) ⟩
theorem main (ns : List Int) : callN Pr 1000 100 38 [.val (.scr ns)] [] = some (.leaf (.bl true), []) := by
  let k : Nat := max 1 (min 2 ns.length)
  have hk : k ≤ 2 := by simp only [k]; omega
  have hit : ∀ {x1 x2 : Str} {p1 p2 p3 p4 p5 p6 p7 p8 p9 p10 p11 : Pos}, denIt (G 99) (.rng (.bi2 .max2 p1 (.con (.int 1) 0 p2) (.bi2 .min2 p3 (.con (.int 2) 0 p4) (.bi1 .len p5 (.var 0 x1 p6) p7) p8) p9) p10 p11) ⟨[.val (.scr ns), .no], []⟩ = some (vals k, ⟨[.val (.scr ns), .no], []⟩) := by
    intro x1 x2 p1 p2 p3 p4 p5 p6 p7 p8 p9 p10 p11
    refine rng_ok ?_ (by omega)
    have b1 : bi1D .len (.scr ns) = some (.int ns.length) := rfl
    have b2 : bi2D .min2 (.int 2) (.int ns.length) = some (.int (min 2 ns.length : Nat)) := by
      show some (D.int (if (ns.length : Int) < 2 then (ns.length : Int) else 2)) = _
      congr 2
      split <;> omega
    have b3 : bi2D .max2 (.int 1) (.int (min 2 ns.length : Nat)) = some (.int k) := by
      show some (D.int (if ((min 2 ns.length : Nat) : Int) > 1 then ((min 2 ns.length : Nat) : Int) else 1)) = _
      congr 2
      simp only [k]
      split <;> omega
    simp only [den, bnd, conD, ofO_s, ret, opn_var, readVar, List.getElem?_cons_zero, b1, b2, b3]
  have ec : den (G 99) c38_0 ⟨[.val (.scr ns), .no], []⟩ = some (.lst ((vals k).map fun _ => .bl true), ⟨[.val (.scr ns), .no], []⟩) := by
    refine comp1p _ (.inl rfl) (hit (x2 := "")) (by rw [vals_len]; unfold sizeLine; omega) fun v hv => ?_
    obtain ⟨j, hj, rfl⟩ := vals_mem hv
    obtain ⟨a, b, ha, hb, hb2, ep⟩ := pot (n := 99) (S := []) (by omega) (ns := ns) (k := j) (by omega)
    obtain ⟨S', hS', er⟩ := right (m := 99) (S := [.fl [.int a, .int b]]) (by omega) ⟨a, b, rfl, ha, hb, hb2⟩
    rw [den, bnd_ok (a_shv rfl (a_shv rfl a_nil))]
    rw [bnd_ok (show doCall (G 99) 21 _ _ = some (.fl [.int a, .int b], _) from by unfold doCall; rw [env_call, ep])]
    unfold lend
    simp only [env_call, List.length_nil, List.nil_append, er, List.take_zero]
  exact call_ok (n := 100) (d := d38) rfl (by omega) rfl (r_rt (x_ret (v_bi1 (fun _ _ _ z => by cases z) ec (allBl_true fun d hd => by obtain ⟨_, _, rfl⟩ := List.mem_map.mp hd; rfl))))
end K44
end Dm

namespace Dm.K44
open PySem PySem.Spec PyProof.Rows L2 Dm
abbrev R : PySem.W.OpenRow := PySem.W.OpenLaw.row PySem.Challenge.rw_oneshelf_k44_whole_thresholds_and_shower
abbrev hk : PySem.W.Hook := He.hookX 4 Pr.faH Pr.fnH [] [] Pr.exH
def ob (s : PySem.W.SharedT) : He.AlX := He.obsX 4 Pr.faH Pr.fnH [] [] Pr.exH (HandSHeadRun.getT s)
theorem ob_eq (s : PySem.W.SharedT) : ob s = hk.obs s.abs := He.obsX_eq (HandSHeadRun.getT_eq s)
def loose : List Str := (["is_integer", "is_list", "ShelfError", "StateError", "InvalidTable", "InvalidValue", "InvalidValues", "NotMelting", "MOST_VALUES", "is_below", "Table", "is_value", "want_value", "want_values", "is_pair", "result_of", "known_pairs", "parting", "do_melt", "want_melting", "joined", "lies_within", "greatest_of", "want_thresholds", "read_along", "read_of", "loose_pair", "are_firm", "unlike_showers", "is_shower", "are_unlike_showers", "_law_pot", "_law_draw", "_law_pick", "_law_mixed", "_law_lots", "_law_melting", "_law_table", "_law_melts", "_law_join", "_law_pieces", "_law_parts", "_law_making", "_law_free", "_law_sends", "_law_missing", "_law_read", "_law_is_shower", "_law_are_unlike", "_law_two", "_law_firm_right", "_law_right"] : List String).map Str.ofString
theorem run (w : World) : HandSHeadRun.RunEq R (PySem.W.view R.prog [58]) hk ob 6000 loose w := by
  intro os
  kernel_rfl
theorem dbg1 : (He.obsX 4 Pr.faH Pr.fnH [] [] Pr.exH = He.obsX 4 Pr.faH Pr.fnH [] [] Pr.exH) := rfl
theorem okH : Pr.okH = true := by decide +kernel
end Dm.K44

open PySem PySem.W PySem.Calls PyProof.Rows
theorem k44_end (main : ∀ ns : List Int, ns.length ≤ 63 → Dm.callN Dm.K44.Pr 1000 100 38 [.val (.scr ns)] [] = some (.leaf (.bl true), [])) : PySem.Challenge.rw_oneshelf_k44_whole_thresholds_and_shower.Holds := by
  w_on; o_law
  refine HandSHeadRun.head_any (r := OpenLaw.row PySem.Challenge.rw_oneshelf_k44_whole_thresholds_and_shower) (q := view (OpenLaw.row PySem.Challenge.rw_oneshelf_k44_whole_thresholds_and_shower).prog [58]) (H := Dm.K44.hk) (ob := Dm.K44.ob) (M := 6000) (loose := Dm.K44.loose) (d := HandSHeadRun.topDef (OpenLaw.row PySem.Challenge.rw_oneshelf_k44_whole_thresholds_and_shower).prog 58) (kwd := []) Dm.K44.ob_eq
    (by kernel_rfl) (fun s => by kernel_rfl) Dm.K44.run (by kernel_rfl) (by kernel_rfl) (by kernel_rfl) (by rfl) (by first | assumption | decide +kernel) (by decide +kernel) ⟨rfl, rfl, rfl, rfl, rfl, by decide +kernel⟩ ?hw ?hc
  case hw => w_witness2
  case hc =>
    refine L2.walk_ofE (l := PySem.Challenge.rw_oneshelf_k44_whole_thresholds_and_shower) (n := 63) (k := 2 * 100) (x := "_law_script") (CX := L2.CX0) rfl (by decide) (by kernel_rfl) ⟨rfl, by decide, by decide⟩ ?F (fun _ _ _ _ z => z)
    intro w mg fa h Y G hmg0
    obtain ⟨K, KX, c⟩ := Y
    have hmg : mg ("law" : PySem.Str) = some (.ref fa) := by
      have e : (HandSHeadRun.topDef (OpenLaw.row PySem.Challenge.rw_oneshelf_k44_whole_thresholds_and_shower).prog 58).name = ("law" : PySem.Str) := by kernel_rfl
      rw [← e]
      exact hmg0
    exact Dm.law_of KX G c.t.d c.more Dm.K44.okH Dm.K44.ok_all Dm.K44.bindOk (f := 38) (d := Dm.K44.d38) rfl rfl rfl rfl hmg main


set_option maxRecDepth 100000 in
theorem PySem.Challenge.cw_oneshelf_k44_whole_thresholds_and_shower_holds : PySem.Challenge.rw_oneshelf_k44_whole_thresholds_and_shower.Holds :=
  k44_end fun ns _ => Dm.K44.main ns

