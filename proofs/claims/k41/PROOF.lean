import PyProof.Rows.All
import Wide.All
import OpenK.AllK
import Wide.FinOn
import HandS.ForMost
import HandS.Style
import HandS.IsInst
import HandS.Deep
import HandS.TryOnly
import HandS.Comp
import HandS.SetFor
import HandS.Strs
import HandS.Set
import HandS.Codes
import HandS.OwnEq
import HandS.Defaults
import HandS.Conv
import HandS.Head0
import HandS.Head1
import HandS.Head2
import HandS.HeadEnd
import HandS.HeadHook1
import HandS.HeadHook2
import HandS.HeadHook3
import HandS.HeadHook4
import KE.KStateDown
import PySem.Challenge.RW_oneshelf_k41_whole_melting_or_parted
set_option Elab.async false
set_option linter.all false
set_option maxRecDepth 100000
set_option maxHeartbeats 0
/-! The D machine: Python data as trees, mini syntax, meaning. -/
namespace Dm
open PySem L2

inductive D where
  | non | bl (b : Bool) | int (i : Int) | str (x : Str)
  | tup (xs : List D) | lst (xs : List D)
  | obj (c : Nat) (fs : List D)
  | scr (ns : List Int)
  deriving Inhabited

mutual
def D.py : D → PyData
  | .non => .none
  | .bl b => .bool b
  | .int i => .int i
  | .str x => .str x
  | .tup xs => .tuple (D.pys xs)
  | .lst xs => .list (D.pys xs)
  | .obj _ _ => .dict []
  | .scr _ => .dict []
def D.pys : List D → List PyData
  | [] => []
  | x :: xs => D.py x :: D.pys xs
end

/-- what is owned: a value that nobody owns, a flat list, a list of flat lists, an object that is being made -/
inductive OD where
  | leaf (d : D)
  | fl (ds : List D)
  | ll (dss : List (List D))
  | oobj (c : Nat) (fs : List D)
  deriving Inhabited
def OD.toD : OD → D
  | .leaf d => d
  | .fl ds => .lst ds
  | .ll dss => .lst (dss.map D.lst)
  | .oobj c fs => .obj c fs
def OD.leafD : OD → Option D
  | .leaf d => some d
  | _ => none

inductive Slot where
  | no | val (d : D) | own (o : OD) | ref (j : Nat)
  deriving Inhabited

structure St where
  L : List Slot
  S : List OD

abbrev M (α : Type) := St → Option (α × St)
def ret {α : Type} (a : α) : M α := fun s => some (a, s)
def bnd {α β : Type} (m : M α) (k : α → M β) : M β := fun s => match m s with | none => none | some (a, s') => k a s'
def fail {α : Type} : M α := fun _ => none
def ofO {α : Type} : Option α → M α
  | some a => ret a
  | none => fail

/-! ### mini syntax -/
/-- classes for isinstance -/
inductive Ty where
  | int | bool | str | list | tuple
  deriving DecidableEq
/-- methods that change a list -/
inductive Mm where
  | append | extend | pop | clear | reverse
  deriving DecidableEq
def Mm.nm : Mm → Str
  | .append => "append" | .extend => "extend" | .pop => "pop" | .clear => "clear" | .reverse => "reverse"
inductive Bi where
  | divmod | len | abs | max2 | min2 | int | all | any | sum | maxL | tuple | list
  deriving DecidableEq
def Bi.nm : Bi → Str
  | .divmod => "divmod" | .len => "len" | .abs => "abs" | .max2 => "max" | .min2 => "min" | .int => "int" | .all => "all" | .any => "any" | .sum => "sum" | .maxL => "max" | .tuple => "tuple" | .list => "list"
def Ty.nm : Ty → Str
  | .int => "int" | .bool => "bool" | .str => "str" | .list => "list" | .tuple => "tuple"

mutual
inductive E where
  | var (i : Nat) (x : Str) (p : Pos)
  | bv (i : Nat) (x : Str) (p : Pos)
  | con (c : Const) (k : Nat) (p : Pos)
  | glo (g : Nat) (x : Str) (p : Pos)
  | tup (es : Es) (k : Nat) (p : Pos)
  | lst (es : Es) (p : Pos)
  | bin (a : E) (op : Operator) (b : E) (p : Pos)
  | una (op : UnaryOp) (a : E) (p : Pos)
  | bop (op : BoolOp) (e : E) (es : Es) (p : Pos)
  | cmp (a : E) (op : CmpOp) (b : E) (p : Pos)
  | cmp2 (a : E) (op : CmpOp) (b : E) (op' : CmpOp) (c : E) (p : Pos)
  | ife (c a b : E) (p : Pos)
  | sub (a i : E) (p : Pos)
  | att (a : E) (k : Nat) (f : Str) (p : Pos)
  | bi1 (b : Bi) (p : Pos) (e : E) (q : Pos)
  | bi2 (b : Bi) (p : Pos) (e e' : E) (q : Pos)
  | conv (b : Bi) (p : Pos) (e : E) (q : Pos)
  | mth0 (m : Mm) (j : Nat) (x : Str) (p1 p2 p3 : Pos)
  | mth1 (m : Mm) (j : Nat) (x : Str) (p1 p2 : Pos) (e : E) (p3 : Pos)
  | isi (a : E) (t : Ty) (p1 p2 p3 : Pos)
  | call (f : Nat) (x : Str) (p : Pos) (as : As) (q : Pos)
  | callT (f : Nat) (x : Str) (p : Pos) (g : Nat) (y : Str) (p' : Pos) (as : As) (q' q : Pos)
  | new (k : Nat) (f : Nat) (x : Str) (p : Pos) (as : As) (q : Pos)
  | comp (elt : E) (t : Tg) (it : Wk) (ifs : Es) (sc : Scope) (own : List (Str × Nat)) (p : Pos)
  | compN (elt : E) (cs : Cs) (sc : Scope) (own : List (Str × Nat)) (p : Pos)
  | ss (p1 p2 : Pos) (e : E) (q2 q1 : Pos)
  | sne (p1 : Pos) (a : E) (q1 p2 : Pos) (b : E) (q2 q : Pos)
  | idx (a : E) (p : Pos) (e : E) (q : Pos)
  | sl (a : E) (lo hi : EO) (p q : Pos)
  | lrng (p1 p2 : Pos) (e : E) (q2 q1 : Pos)
  | isiT (a : E) (ts : List (Ty × Pos)) (k : Nat) (p1 p2 p3 : Pos)
  | isiC (a : E) (k : Nat) (x : Str) (p1 p2 p3 : Pos)
  | callK (f : Nat) (x : Str) (p : Pos) (ks : Ks) (n : Nat) (π : List Nat) (q : Pos)
  | lenO (k f : Nat) (p : Pos) (e : E) (q : Pos)
  | eqO (k f : Nat) (a b : E) (p : Pos)
/-- a part of a slice -/
inductive EO where
  | no
  | yes (e : E)
/-- keywords -/
inductive Ks where
  | nil
  | cons (x : Str) (e : E) (p : Pos) (ks : Ks)
/-- clauses -/
inductive Cs where
  | nil
  | cons (t : Tg) (it : Wk) (ifs : Es) (cs : Cs)
inductive Es where
  | nil
  | cons (e : E) (es : Es)
inductive As where
  | nil
  | val (e : E) (as : As)
  | share (i : Nat) (x : Str) (p : Pos) (as : As)
/-- what is walked -/
inductive Wk where
  | e (a : E)
  | rng (a : E) (p q : Pos)
  | rng2 (a b : E) (p q : Pos)
  | enu (a : E) (p q : Pos)
/-- targets -/
inductive Tg where
  | nm (i : Nat) (x : Str) (p : Pos)
  | tp (ts : Tgs) (k : Nat) (p : Pos)
inductive Tgs where
  | nil
  | cons (t : Tg) (ts : Tgs)
end

/-! ### to the kit's syntax -/
mutual
def E.py : E → Expr
  | .var _ x p => .Name x p
  | .bv _ x p => .Name x p
  | .con c k p => .Constant c k p
  | .glo _ x p => .Name x p
  | .tup es k p => .Tuple es.py k p
  | .lst es p => .List es.py p
  | .bin a op b p => .BinOp a.py op b.py p
  | .una op a p => .UnaryOp op a.py p
  | .bop op e es p => .BoolOp op (e.py :: es.py) p
  | .cmp a op b p => .Compare a.py [op] [b.py] p
  | .cmp2 a op b op' c p => .Compare a.py [op, op'] [b.py, c.py] p
  | .ife c a b p => .IfExp c.py a.py b.py p
  | .sub a i p => .Subscript a.py i.py p
  | .att a _ f p => .Attribute a.py f p
  | .bi1 b p e q => .Call (.Name b.nm p) [e.py] [] q
  | .bi2 b p e e' q => .Call (.Name b.nm p) [e.py, e'.py] [] q
  | .conv b p e q => .Call (.Name b.nm p) [e.py] [] q
  | .mth0 m _ x p1 p2 p3 => .Call (.Attribute (.Name x p1) m.nm p2) [] [] p3
  | .mth1 m _ x p1 p2 e p3 => .Call (.Attribute (.Name x p1) m.nm p2) [e.py] [] p3
  | .isi a t p1 p2 p3 => .Call (.Name "isinstance" p1) [a.py, .Name t.nm p2] [] p3
  | .call _ x p as q => .Call (.Name x p) as.py [] q
  | .callT _ x p _ y p' as q' q => .Call (.Name x p) [.Call (.Name y p') as.py [] q'] [] q
  | .new _ _ x p as q => .Call (.Name x p) as.py [] q
  | .comp elt t it ifs sc _ p => .ListComp elt.py [⟨t.py, it.py, ifs.py, 0⟩] sc p
  | .compN elt cs sc _ p => .ListComp elt.py cs.py sc p
  | .ss p1 p2 e q2 q1 => .Call (.Name "sorted" p1) [.Call (.Name "set" p2) [e.py] [] q2] [] q1
  | .sne p1 a q1 p2 b q2 q => .Compare (.Call (.Name "set" p1) [a.py] [] q1) [.NotEq] [.Call (.Name "set" p2) [b.py] [] q2] q
  | .idx a p e q => .Call (.Attribute a.py "index" p) [e.py] [] q
  | .sl a lo hi p q => .Subscript a.py (.Slice lo.py hi.py none p) q
  | .lrng p1 p2 e q2 q1 => .Call (.Name "list" p1) [.Call (.Name "range" p2) [e.py] [] q2] [] q1
  | .isiT a ts k p1 p2 p3 => .Call (.Name "isinstance" p1) [a.py, .Tuple (ts.map fun t => .Name t.1.nm t.2) k p2] [] p3
  | .isiC a _ x p1 p2 p3 => .Call (.Name "isinstance" p1) [a.py, .Name x p2] [] p3
  | .callK _ x p ks _ _ q => .Call (.Name x p) [] ks.py q
  | .lenO _ _ p e q => .Call (.Name "len" p) [e.py] [] q
  | .eqO _ _ a b p => .Compare a.py [.Eq] [b.py] p
def EO.py : EO → Option Expr
  | .no => none
  | .yes e => some e.py
def Ks.py : Ks → List Keyword
  | .nil => []
  | .cons x e p ks => ⟨some x, e.py, p⟩ :: ks.py
def Cs.py : Cs → List Comprehension
  | .nil => []
  | .cons t it ifs cs => ⟨t.py, it.py, ifs.py, 0⟩ :: cs.py
def Es.py : Es → List Expr
  | .nil => []
  | .cons e es => e.py :: es.py
def As.py : As → List Expr
  | .nil => []
  | .val e as => e.py :: as.py
  | .share _ x p as => .Name x p :: as.py
def Wk.py : Wk → Expr
  | .e a => a.py
  | .rng a p q => .Call (.Name "range" p) [a.py] [] q
  | .rng2 a b p q => .Call (.Name "range" p) [a.py, b.py] [] q
  | .enu a p q => .Call (.Name "enumerate" p) [a.py] [] q
def Tg.py : Tg → Expr
  | .nm _ x p => .Name x p
  | .tp ts k p => .Tuple ts.py k p
def Tgs.py : Tgs → List Expr
  | .nil => []
  | .cons t ts => t.py :: ts.py
end

/-! ### operations on data -/
def D.tr : D → Option Bool
  | .bl b => some b
  | _ => none
def eqD (a b : D) : Option Bool := if SeqAt.shaped a.py && SeqAt.shaped b.py then some (PyData.eqv a.py b.py) else none
def cmpI (f : Int → Int → Bool) : D → D → Option D
  | .int i, .int j => some (.bl (f i j))
  | _, _ => none
def inD (a : D) (xs : List D) : Option Bool :=
  if SeqAt.shaped a.py && SeqAt.shaped (D.lst xs).py then some (xs.any fun z => PyData.eqv z.py a.py) else none
def isD : D → D → Option Bool
  | .non, .non => some true
  | _, .non => some false
  | .bl a, .bl b => some (a == b)
  | .non, .bl _ => some false
  | .int _, .bl _ => some false
  | .str _, .bl _ => some false
  | _, _ => none
def cmpD (op : CmpOp) (a b : D) : Option D :=
  match op with
  | .Eq => (eqD a b).map .bl
  | .NotEq => (eqD a b).map fun c => .bl !c
  | .Lt => cmpI (fun i j => decide (i < j)) a b
  | .LtE => cmpI (fun i j => decide (i ≤ j)) a b
  | .Gt => cmpI (fun i j => decide (j < i)) a b
  | .GtE => cmpI (fun i j => decide (j ≤ i)) a b
  | .Is => (isD a b).map .bl
  | .IsNot => (isD a b).map fun c => .bl !c
  | .In => match b with | .lst xs => (inD a xs).map .bl | _ => none
  | .NotIn => match b with | .lst xs => (inD a xs).map fun c => .bl !c | _ => none
def binD (op : Operator) (a b : D) : Option D :=
  match op, a, b with
  | .Add, .int i, .int j => some (.int (i + j))
  | .Sub, .int i, .int j => some (.int (i - j))
  | .Mult, .int i, .int j => if -(2 ^ 64) < i ∧ i < 2 ^ 64 ∨ -(2 ^ 64) < j ∧ j < 2 ^ 64 then some (.int (i * j)) else none
  | .FloorDiv, .int i, .int j => if 0 < j ∧ j < 2 ^ 30 then some (.int (i / j)) else none
  | .Mod, .int i, .int j => if 0 < j then some (.int (i % j)) else none
  | .Pow, .int i, .int j => if 0 ≤ j ∧ j ≤ 1000000 ∧ i.natAbs < 2 ^ 64 then some (.int (i ^ j.toNat)) else none
  | .Add, .lst xs, .lst ys => if xs.length + ys.length ≤ sizeLine then some (.lst (xs ++ ys)) else none
  | .Mult, .lst xs, .int k => if -(2 ^ 63) ≤ k ∧ k < 2 ^ 63 ∧ xs.length * k.toNat ≤ sizeLine then some (.lst (List.replicate k.toNat xs).flatten) else none
  | _, _, _ => none
def unD (op : UnaryOp) (a : D) : Option D :=
  match op, a with
  | .USub, .int i => some (.int (-i))
  | _, _ => none
def ixD (a i : D) : Option D :=
  match a, i with
  | .lst xs, .int i => atI xs i
  | .tup xs, .int i => atI xs i
  | .scr xs, .int i => (atI xs i).map D.int
  | _, _ => none
def isiD (a : D) (t : Ty) : Option Bool :=
  match a, t with
  | .obj _ _, _ => none
  | .scr _, _ => none
  | .bl _, .int => some true
  | .bl _, .bool => some true
  | .int _, .int => some true
  | .str _, .str => some true
  | .lst _, .list => some true
  | .tup _, .tuple => some true
  | _, _ => some false
def allBl : List D → Option (List Bool)
  | [] => some []
  | .bl b :: r => (allBl r).map (b :: ·)
  | _ => none
def allI : List D → Option (List Int)
  | [] => some []
  | .int b :: r => (allI r).map (b :: ·)
  | _ => none
def maxI : List Int → Int
  | [] => 0
  | [a] => a
  | a :: r => max a (maxI r)
def bi1D (b : Bi) (d : D) : Option D :=
  match b, d with
  | .len, .lst xs => some (.int xs.length)
  | .len, .tup xs => some (.int xs.length)
  | .len, .scr xs => some (.int xs.length)
  | .abs, .int i => some (.int (if i < 0 then -i else i))
  | .int, .int i => some (.int i)
  | .int, .bl k => some (.int (if k then 1 else 0))
  | .all, .lst xs => (allBl xs).map fun bs => .bl (bs.all id)
  | .any, .lst xs => (allBl xs).map fun bs => .bl (bs.any id)
  | .sum, .lst xs => (allI xs).map fun bs => .int bs.sum
  | .maxL, .lst (x :: xs) => (allI (x :: xs)).map fun bs => .int (maxI bs)
  | _, _ => none
def bi2D (b : Bi) (d d' : D) : Option D :=
  match b, d, d' with
  | .max2, .int i, .int j => some (.int (if j > i then j else i))
  | .min2, .int i, .int j => some (.int (if j < i then j else i))
  | .divmod, .int i, .int j => if 0 < j ∧ j < 1073741824 then some (.tup [.int (i / j), .int (i % j)]) else none
  | _, _, _ => none
/-- list(..), tuple(..) of a value -/
def convD (b : Bi) (d : D) : Option D :=
  match b, d with
  | .tuple, .lst xs => some (.tup xs)
  | .tuple, .tup xs => some (.tup xs)
  | .list, .lst xs => some (.lst xs)
  | .list, .tup xs => some (.lst xs)
  | _, _ => none
def conD : Const → Option D
  | .none => some .non
  | .bool b => some (.bl b)
  | .int i => some (.int i)
  | .str x => some (.str x)
  | _ => none

/-! ### further operations -/
def insI (x : Int) : List Int → List Int
  | [] => [x]
  | y :: l => if x < y then x :: y :: l else if x = y then y :: l else y :: insI x l
def ssI : List Int → List Int
  | [] => []
  | x :: l => insI x (ssI l)
def ssD : D → Option D
  | .lst xs => match allI xs with
    | some ns => if ns.length < 64 then some (.lst ((ssI ns).map .int)) else none
    | none => none
  | _ => none
def sneD : D → D → Option D
  | .lst xs, .lst ys => match allI xs, allI ys with
    | some ns, some ms => if ns.length < 64 ∧ ms.length < 64 then some (.bl (!(ssI ns == ssI ms))) else none
    | _, _ => none
  | _, _ => none
def firstEq (d : D) : Nat → List D → Option Nat
  | _, [] => none
  | n, x :: xs => if PyData.eqv x.py d.py then some n else firstEq d (n + 1) xs
def idxD : D → D → Option D
  | .lst xs, d => if SeqAt.shaped d.py && SeqAt.shaped (D.lst xs).py then (firstEq d 0 xs).map fun (k : Nat) => .int k else none
  | _, _ => none
def cutD (xs : List D) (lo hi : Option Int) : List D := (xs.drop (HT.sIx xs.length 0 lo)).take (HT.sIx xs.length xs.length hi - HT.sIx xs.length 0 lo)
def partI : Option D → Option (Option Int)
  | none => some none
  | some (.int i) => some (some i)
  | _ => none
def slD : D → Option Int → Option Int → Option D
  | .lst xs, lo, hi => some (.lst (cutD xs lo hi))
  | _, _, _ => none
def mOpt (m : M D) : M (Option Int) := bnd m fun x => match x with
  | .int i => ret (some i)
  | _ => fail
def isiTD (d : D) : List Ty → Option Bool
  | [] => some false
  | t :: ts => match isiD d t with
    | some true => some true
    | some false => isiTD d ts
    | none => none
def isiCD (k : Nat) : D → Option Bool
  | .obj q _ => if q = k then some true else none
  | _ => none
/-- the values in the parameters' order -/
def perm {α : Type} (π : List Nat) (xs : List α) : List α := π.filterMap fun i => xs[i]?
/-! ### the state -/
def setL (L : List Slot) (i : Nat) (d : Slot) : List Slot := L.set i d
def wipeL (L : List Slot) : List Nat → List Slot
  | [] => L
  | v :: vs => (wipeL L vs).set v .no
/-- the slots vs as they were -/
def backL (L0 L : List Slot) : List Nat → List Slot
  | [] => L
  | v :: vs => (backL L0 L vs).set v (match L0[v]? with | some (.val d) => .val d | _ => .no)
def readVar (i : Nat) : M D := fun s =>
  match s.L[i]? with
  | some (.val d) => some (d, s)
  | some (.own o) => some (o.toD, { s with L := s.L.set i (.val o.toD) })
  | _ => none
/-- a look at what a name holds, in passing -/
def peekO (s : St) (i : Nat) : Option OD :=
  match s.L[i]? with
  | some (.val d) => some (.leaf d)
  | some (.own o) => some o
  | some (.ref j) => s.S[j]?
  | _ => none
def setV (i : Nat) (d : D) : M Unit := fun s => if i < s.L.length then some ((), { s with L := s.L.set i (.val d) }) else none
mutual
def setT : Tg → D → M Unit
  | .nm i _ _, d => setV i d
  | .tp ts _ _, d => match d with
    | .tup ds => setTs ts ds
    | .lst ds => setTs ts ds
    | _ => fail
def setTs : Tgs → List D → M Unit
  | .nil, [] => ret ()
  | .cons t ts, d :: ds => bnd (setT t d) fun _ => setTs ts ds
  | _, _ => fail
end

/-- what calls mean: a def's number, the bound slots, the cells -/
abbrev CallF := Nat → List Slot → List OD → Option (OD × List OD)
structure Env where
  call : CallF
  wf : Nat
  glob : Nat → Option D
  fn : Nat → List Str

def doCall (Γ : Env) (f : Nat) (as : List Slot) : M OD := fun s =>
  match Γ.call f as s.S with
  | some (o, S') => some (o, { s with S := S' })
  | none => none
/-- a new list is lent to a def, as a further cell -/
def lend (Γ : Env) (f : Nat) (o : OD) : M D := fun s =>
  match o with
  | .fl ds => match Γ.call f [.ref s.S.length] (s.S ++ [.fl ds]) with
    | some (.leaf d, S') => some (d, { s with S := S'.take s.S.length })
    | _ => none
  | _ => none
/-- a new object is made by its def -/
def refsIn (m : Nat) (sl : List Slot) : Bool := sl.all fun | .ref j => decide (j < m) | _ => true
def make (Γ : Env) (k f : Nat) (sl : List Slot) : M D := fun s =>
  if refsIn s.S.length sl = true then match Γ.call f (.ref s.S.length :: sl) (s.S ++ [.oobj k []]) with
  | some (.leaf .non, S') => match S'[s.S.length]? with
    | some (.oobj k' fs) => some (.obj k' fs, { s with S := S'.take s.S.length })
    | _ => none
  | _ => none
  else none
def runItems {α : Type} (ids : List Nat) (t : Tg) (body : M (List α)) : List D → M (List α)
  | [] => ret []
  | x :: r => bnd (fun s => some ((), { s with L := wipeL s.L ids })) fun _ => bnd (setT t x) fun _ => bnd body fun ys => bnd (runItems ids t body r) fun zs => ret (ys ++ zs)
def inScope (ids : List Nat) (m : M (List D)) : M D := fun s =>
  match m s with
  | some (ds, s') => if ds.length ≤ sizeLine then some (.lst ds, { s' with L := backL s.L s'.L ids }) else none
  | none => none
/-- .. as it is -/
def inBlk {α : Type} (ids : List Nat) (m : M (List α)) : M (List α) := fun s =>
  match m s with
  | some (ds, s') => if ds.length ≤ sizeLine then some (ds, { s' with L := backL s.L s'.L ids }) else none
  | none => none
def itD : D → Option (List D)
  | .lst xs => some xs
  | .tup xs => some xs
  | _ => none
def rangeD (lo hi : Int) : List D := (List.range (hi - lo).toNat).map fun (k : Nat) => D.int (lo + k)

def lrngD : D → Option D
  | .int n => if -(2 ^ 62) ≤ n ∧ n < 2 ^ 62 ∧ n.toNat ≤ 2 ^ 24 then some (.lst (rangeD 0 n)) else none
  | _ => none
def attO (fn : Nat → List Str) (k : Nat) (f : Str) : OD → Option D
  | .leaf (.obj q fs) => if (fn q)[k]? = some f then fs[k]? else none
  | .oobj q fs => if (fn q)[k]? = some f then fs[k]? else none
  | _ => none
def peek (i : Nat) : M D := fun s => match peekO s i with | some o => some (o.toD, s) | none => none
def peekL (i : Nat) : M Unit := fun s => match peekO s i with | some (.fl _) => some ((), s) | _ => none
/-- an operand that is only looked at -/
def opn (m : M D) : E → M D
  | .bv i _ _ => peek i
  | _ => m
def mutF (j : Nat) (f : List D → Option (D × List D)) : M D := fun s =>
  match s.L[j]? with
  | some (.own (.fl ds)) => match f ds with
    | some (d, ds') => some (d, { s with L := s.L.set j (.own (.fl ds')) })
    | none => none
  | some (.ref k) => match s.S[k]? with
    | some (.fl ds) => match f ds with
      | some (d, ds') => some (d, { s with S := s.S.set k (.fl ds') })
      | none => none
    | _ => none
  | _ => none
def mm0 (m : Mm) (ds : List D) : Option (D × List D) :=
  match m with
  | .pop => match ds[ds.length - 1]? with
    | some d => some (d, ds.dropLast)
    | none => none
  | .clear => some (.non, [])
  | .reverse => some (.non, ds.reverse)
  | _ => none
def mm1 (m : Mm) (x : D) (ds : List D) : Option (D × List D) :=
  match m with
  | .append => if ds.length < sizeLine then some (.non, ds ++ [x]) else none
  | .extend => match x with
    | .lst es => if ds.length + es.length ≤ sizeLine then some (.non, ds ++ es) else none
    | .tup es => if ds.length + es.length ≤ sizeLine then some (.non, ds ++ es) else none
    | _ => none
  | .pop => match x with
    | .int i => if -(2 ^ 63) ≤ i ∧ i < 2 ^ 63 then (match ixN ds.length i with
      | some k => match ds[k]? with
        | some d => some (d, ds.eraseIdx k)
        | none => none
      | none => none) else none
    | _ => none
  | _ => none
def setAt (i : D) (x : D) (ds : List D) : Option (D × List D) :=
  match i with
  | .int k => match ixN ds.length k with
    | some j => some (.non, ds.set j x)
    | none => none
  | _ => none
def unaM (op : UnaryOp) (m : M D) : M D :=
  match op with
  | .Not => bnd m fun x => bnd (ofO x.tr) fun b => ret (.bl !b)
  | op => bnd m fun x => ofO (unD op x)
def cmpM (op : CmpOp) (ma : M D) (a : E) (mb : M D) : M D :=
  match a with
  | .bv i _ _ => bnd (peek i) fun _ => bnd mb fun y => bnd (peek i) fun x => ofO (cmpD op x y)
  | _ => bnd ma fun x => bnd mb fun y => ofO (cmpD op x y)
def subB (j : Nat) (m : M D) : M D := bnd (peek j) fun _ => bnd m fun y s => match peekO s j with
      | some (.leaf d) => ofO (ixD d y) s
      | some (.fl ds) => ofO (ixD (.lst ds) y) s
      | _ => none
def subM (ma : M D) (a : E) (mi : M D) : M D :=
  match a with
  | .bv j _ _ => subB j mi
  | _ => bnd ma fun x => bnd mi fun y => ofO (ixD x y)
def attM (fn : Nat → List Str) (ma : M D) (a : E) (k : Nat) (f : Str) : M D :=
  match a with
  | .bv j _ _ => fun s => match peekO s j with
      | some o => ofO (attO fn k f o) s
      | none => none
  | _ => bnd ma fun x => ofO (attO fn k f (.leaf x))
def enumD : Nat → List D → List D
  | _, [] => []
  | n, d :: ds => .tup [.int n, d] :: enumD (n + 1) ds
mutual
def Tg.ids : Tg → List Nat
  | .nm i _ _ => [i]
  | .tp ts _ _ => ts.ids
def Tgs.ids : Tgs → List Nat
  | .nil => []
  | .cons t ts => t.ids ++ ts.ids
end
def Cs.ids : Cs → List Nat
  | .nil => []
  | .cons t _ _ cs => t.ids ++ cs.ids
/-- a clause by its meaning -/
structure DC where
  t : Tg
  mi : M (List D)
  mt : M Bool
  vs : List Nat
def denDC (me : M D) : List DC → M (List D)
  | [] => bnd me fun d => ret [d]
  | q :: r => bnd q.mi fun items => runItems q.vs q.t (bnd q.mt fun b => if b then denDC me r else ret []) items
def lenM (Γ : Env) (k f : Nat) (x : D) : M D := match x with
  | .obj q fs => if q = k then bnd (doCall Γ f [.val (.obj q fs)]) fun o => match o with
    | .leaf (.int n) => if 0 ≤ n ∧ n < 2 ^ 63 then ret (.int n) else fail
    | _ => fail
    else fail
  | _ => fail
def eqM (Γ : Env) (k f : Nat) (x y : D) : M D := match x, y with
  | .obj q fs, .obj q' gs => if q = k ∧ q' = k then bnd (doCall Γ f [.val (.obj q fs), .val (.obj q' gs)]) fun o => match o with
    | .leaf (.bl b) => ret (.bl b)
    | _ => fail
    else fail
  | _, _ => fail
def callKM (Γ : Env) (f n : Nat) (π : List Nat) (ds : List D) : M D := if (perm π ds).length = n then bnd (doCall Γ f ((perm π ds).map .val)) fun o => ofO o.leafD else fail
/-- all of it: the first clause in the block -/
def compM (ids : List Nat) (me : M D) : List DC → M D
  | [] => fail
  | q :: r => bnd q.mi fun items => inScope ids (runItems ids q.t (bnd q.mt fun b => if b then denDC me r else ret []) items)
mutual
def den (Γ : Env) : E → M D
  | .var i _ _ => readVar i
  | .bv _ _ _ => fail
  | .con c _ _ => ofO (conD c)
  | .glo g _ _ => ofO (Γ.glob g)
  | .tup es _ _ => bnd (dens Γ es) fun ds => if ds.length ≤ sizeLine then ret (.tup ds) else fail
  | .lst es _ => bnd (dens Γ es) fun ds => if ds.length ≤ sizeLine then ret (.lst ds) else fail
  | .bin a op b _ => bnd (den Γ a) fun x => bnd (den Γ b) fun y => ofO (binD op x y)
  | .una op a _ => unaM op (den Γ a)
  | .bop op e es _ => denB Γ op (den Γ e) es
  | .cmp a op b _ => cmpM op (den Γ a) a (opn (den Γ b) b)
  | .cmp2 a op b op' c _ => bnd (den Γ a) fun x => bnd (den Γ b) fun y => bnd (ofO (cmpD op x y)) fun r => bnd (ofO r.tr) fun b => if b then bnd (den Γ c) fun z => ofO (cmpD op' y z) else ret r
  | .ife c a b _ => bnd (den Γ c) fun x => bnd (ofO x.tr) fun b' => if b' then den Γ a else den Γ b
  | .sub a i _ => subM (den Γ a) a (den Γ i)
  | .att a k f _ => attM Γ.fn (den Γ a) a k f
  | .bi1 b _ e _ => bnd (opn (den Γ e) e) fun x => ofO (bi1D b x)
  | .bi2 b _ e e' _ => bnd (den Γ e) fun x => bnd (den Γ e') fun y => ofO (bi2D b x y)
  | .conv b _ e _ => bnd (den Γ e) fun x => ofO (convD b x)
  | .mth0 m j _ _ _ _ => mutF j (mm0 m)
  | .mth1 m j _ _ _ e _ => bnd (peekL j) fun _ => bnd (den Γ e) fun d => mutF j (mm1 m d)
  | .isi a t _ _ _ => bnd (opn (den Γ a) a) fun x => ofO ((isiD x t).map .bl)
  | .call f _ _ as _ => bnd (denAs Γ as) fun sl => bnd (doCall Γ f sl) fun o => ofO o.leafD
  | .callT f _ _ g _ _ as _ _ => bnd (denAs Γ as) fun sl => bnd (doCall Γ g sl) fun o => lend Γ f o
  | .new k f _ _ as _ => bnd (denAs Γ as) fun sl => make Γ k f sl
  | .comp elt t it ifs _ own _ => bnd (denIt Γ it) fun items => inScope (own.map (·.2)) (runItems (own.map (·.2)) t (bnd (denIfs Γ ifs) fun c => if c then bnd (den Γ elt) fun d => ret [d] else ret []) items)
  | .compN elt cs _ own _ => compM (own.map (·.2)) (den Γ elt) (denCs Γ cs)
  | .ss _ _ e _ _ => bnd (den Γ e) fun x => ofO (ssD x)
  | .sne _ a _ _ b _ _ => bnd (den Γ a) fun x => bnd (den Γ b) fun y => ofO (sneD x y)
  | .idx a _ e _ => bnd (den Γ a) fun x => bnd (den Γ e) fun y => ofO (idxD x y)
  | .sl a lo hi _ _ => bnd (den Γ a) fun x => bnd (denEO Γ lo) fun l => bnd (denEO Γ hi) fun h => ofO (slD x l h)
  | .lrng _ _ e _ _ => bnd (den Γ e) fun x => ofO (lrngD x)
  | .isiT a ts _ _ _ _ => bnd (den Γ a) fun x => ofO ((isiTD x (ts.map (·.1))).map .bl)
  | .isiC a k _ _ _ _ => bnd (den Γ a) fun x => ofO ((isiCD k x).map .bl)
  | .callK f _ _ ks n π _ => bnd (denKs Γ ks) fun ds => callKM Γ f n π ds
  | .lenO k f _ e _ => bnd (den Γ e) fun x => lenM Γ k f x
  | .eqO k f a b _ => bnd (den Γ a) fun x => bnd (den Γ b) fun y => eqM Γ k f x y
def denEO (Γ : Env) : EO → M (Option Int)
  | .no => ret none
  | .yes e => mOpt (den Γ e)
def denKs (Γ : Env) : Ks → M (List D)
  | .nil => ret []
  | .cons _ e _ ks => bnd (den Γ e) fun d => bnd (denKs Γ ks) fun ds => ret (d :: ds)
def denCs (Γ : Env) : Cs → List DC
  | .nil => []
  | .cons t it ifs cs => ⟨t, denIt Γ it, denIfs Γ ifs, t.ids ++ cs.ids⟩ :: denCs Γ cs
def dens (Γ : Env) : Es → M (List D)
  | .nil => ret []
  | .cons e es => bnd (den Γ e) fun d => bnd (dens Γ es) fun ds => ret (d :: ds)
def denB (Γ : Env) (op : BoolOp) (m : M D) : Es → M D
  | .nil => m
  | .cons e es => bnd m fun x => bnd (ofO x.tr) fun b => match op with
    | .And => if b then denB Γ op (den Γ e) es else ret x
    | .Or => if b then ret x else denB Γ op (den Γ e) es
def denAs (Γ : Env) : As → M (List Slot)
  | .nil => ret []
  | .val e as => bnd (den Γ e) fun d => bnd (denAs Γ as) fun sl => ret (.val d :: sl)
  | .share i _ _ as => bnd (fun s => match s.L[i]? with
      | some (.val d) => some (Slot.val d, s)
      | some (.ref j) => some (.ref j, s)
      | _ => none) fun x => bnd (denAs Γ as) fun sl => ret (x :: sl)
def denIfs (Γ : Env) : Es → M Bool
  | .nil => ret true
  | .cons e es => bnd (den Γ e) fun x => bnd (ofO x.tr) fun b => if b then denIfs Γ es else ret false
def denIt (Γ : Env) : Wk → M (List D)
  | .e a => bnd (den Γ a) fun x => ofO (itD x)
  | .rng a _ _ => bnd (den Γ a) fun x => match x with
    | .int n => if -(2 ^ 62) ≤ n ∧ n < 2 ^ 62 then ret (rangeD 0 n) else fail
    | _ => fail
  | .rng2 a b _ _ => bnd (den Γ a) fun x => bnd (den Γ b) fun y => match x, y with
    | .int i, .int n => if -(2 ^ 62) ≤ i ∧ i < 2 ^ 62 ∧ -(2 ^ 62) ≤ n ∧ n < 2 ^ 62 then ret (rangeD i n) else fail
    | _, _ => fail
  | .enu a _ _ => bnd (den Γ a) fun x => match x with
    | .lst ds => ret (enumD 0 ds)
    | _ => fail
end

/-! ### statements -/
/-- the right side of an assignment to a name: a value, or a new list that the name then owns -/
inductive OE where
  | v (e : E)
  | o (e : E)
  | oo (e : E)
  | oc (e : E)
def OE.e : OE → E
  | .v e => e
  | .o e => e
  | .oo e => e
  | .oc e => e
/-- a new list -/
def denF (Γ : Env) : E → M (List D)
  | .lst es _ => bnd (dens Γ es) fun ds => if ds.length ≤ sizeLine then ret ds else fail
  | .conv .list _ e _ => bnd (den Γ e) fun x => ofO (itD x)
  | .comp elt t it ifs _ own _ => bnd (denIt Γ it) fun items => inBlk (own.map (·.2)) (runItems (own.map (·.2)) t (bnd (denIfs Γ ifs) fun c => if c then bnd (den Γ elt) fun d => ret [d] else ret []) items)
  | _ => fail
/-- a new list of new lists -/
def denR (Γ : Env) : E → M (List (List D))
  | .comp elt t it ifs _ own _ => bnd (denIt Γ it) fun items => inBlk (own.map (·.2)) (runItems (own.map (·.2)) t (bnd (denIfs Γ ifs) fun c => if c then bnd (denF Γ elt) fun d => ret [d] else ret []) items)
  | _ => fail
/-- what a call has made -/
def OD.mine : OD → Option OD
  | .fl ds => some (.fl ds)
  | .ll dss => some (.ll dss)
  | _ => none
def denC (Γ : Env) : E → M OD
  | .call f _ _ as _ => bnd (denAs Γ as) fun sl => bnd (doCall Γ f sl) fun o => ofO o.mine
  | _ => fail
def denOE (Γ : Env) : OE → M Slot
  | .v e => bnd (den Γ e) fun d => ret (.val d)
  | .o e => bnd (denF Γ e) fun ds => ret (.own (.fl ds))
  | .oo e => bnd (denR Γ e) fun dss => ret (.own (.ll dss))
  | .oc e => bnd (denC Γ e) fun o => ret (.own o)
structure Nm where
  i : Nat
  x : Str
  p : Pos
mutual
inductive T where
  | pass (p : Pos)
  | exp (e : E) (p : Pos)
  | set (n : Nm) (e : OE) (p : Pos)
  | asg (t : Tg) (e : E) (p : Pos)
  | par (t : List Nm) (kt : Nat) (pt : Pos) (es : List OE) (ke : Nat) (pe : Pos) (p : Pos)
  | subnm (j : Nm) (k : Int) (kk : Nat) (pk q : Pos) (n : Nm) (kt : Nat) (pt : Pos) (e : E) (p : Pos)
  | setI (j : Nm) (i : E) (q : Pos) (e : E) (p : Pos)
  | setF (j : Nm) (k : Nat) (f : Str) (q : Pos) (e : E) (p : Pos)
  | iff (c : E) (a b : Ts) (p : Pos)
  | whl (c : E) (a : Ts) (p : Pos)
  | for (t : Tg) (it : Wk) (a : Ts) (p : Pos)
  | ret (e : E) (p : Pos)
  | retO (e : OE) (p : Pos)
  | setII (j : Nm) (i : E) (q1 : Pos) (i2 : E) (q2 : Pos) (e : E) (p : Pos)
  | bad (st : Stmt)
inductive Ts where
  | nil
  | cons (t : T) (ts : Ts)
end
inductive Fl where
  | nx | bk | ct | rt (o : OD)
def setSlot (i : Nat) (x : Slot) : M Unit := fun s => if i < s.L.length then some ((), { s with L := s.L.set i x }) else none
def setSlots : List Nm → List Slot → M Unit
  | [], [] => ret ()
  | n :: ns, x :: xs => bnd (setSlot n.i x) fun _ => setSlots ns xs
  | _, _ => fail
def denOEs (Γ : Env) : List OE → M (List Slot)
  | [] => ret []
  | e :: es => bnd (denOE Γ e) fun x => bnd (denOEs Γ es) fun xs => ret (x :: xs)
def andThen (m : M Fl) (k : M Fl) : M Fl := bnd m fun fl => match fl with
  | .nx => k
  | fl => ret fl
def turnEnd (m : M Fl) (k : M Fl) : M Fl := bnd m fun fl => match fl with
  | .nx => k
  | .ct => k
  | .bk => ret .nx
  | .rt o => ret (.rt o)
def whileM (c : M Bool) (body : M Fl) : Nat → M Fl
  | 0 => fail
  | n + 1 => bnd c fun b => if b then turnEnd body (whileM c body n) else ret .nx
def forM (t : Tg) (body : M Fl) : List D → M Fl
  | [] => ret .nx
  | x :: r => bnd (setT t x) fun _ => turnEnd body (forM t body r)
def tst (Γ : Env) (e : E) : M Bool := bnd (den Γ e) fun x => ofO x.tr
def setFld (j k : Nat) (f : Str) (fn : Nat → List Str) (d : D) : M Unit := fun s =>
  match s.L[j]? with
  | some (.ref q) => match s.S[q]? with
    | some (.oobj c fs) => if k = fs.length ∧ (fn c)[k]? = some f then some ((), { s with S := s.S.set q (.oobj c (fs ++ [d])) }) else none
    | _ => none
  | _ => none
def Slot.notOwn : Slot → Bool
  | .own _ => false
  | _ => true
def D.atom : D → Bool
  | .non => true
  | .bl _ => true
  | .int _ => true
  | .str _ => true
  | _ => false
def OD.flat : OD → Bool
  | .fl ds => ds.all D.atom
  | _ => false
def rtM : Slot → M Fl
  | .val d => ret (.rt (.leaf d))
  | .own o => ret (.rt o)
  | _ => fail
/-- x[i][j] = d: while the places are told, x is nobody's -/
def setII (mi mj : M D) (j : Nat) (d : D) : M Fl := fun s =>
  match s.L[j]? with
  | some (.own (.ll dss)) => if (s.L.set j .no).all Slot.notOwn = true then
      (match mi { s with L := s.L.set j (.val (OD.ll dss).toD) } with
      | some (.int a, s1) => match ixN dss.length a with
        | some k => match dss[k]? with
          | some ds => (match mj s1 with
            | some (.int b, s2) => match ixN ds.length b with
              | some l => if s2.S.all OD.flat = true then some (.nx, ⟨s.L.set j (.own (.ll (dss.set k (ds.set l d)))), s2.S⟩) else none
              | none => none
            | _ => none)
          | none => none
        | none => none
      | _ => none) else none
  | _ => none
mutual
def exec (Γ : Env) : T → M Fl
  | .pass _ => ret .nx
  | .exp e _ => bnd (den Γ e) fun _ => ret .nx
  | .set n e _ => bnd (denOE Γ e) fun x => bnd (setSlot n.i x) fun _ => ret .nx
  | .asg t e _ => bnd (den Γ e) fun d => bnd (setT t d) fun _ => ret .nx
  | .par t _ _ es _ _ _ => bnd (denOEs Γ es) fun xs => bnd (setSlots t xs) fun _ => ret .nx
  | .subnm j k _ _ _ n _ _ e _ => bnd (den Γ e) fun d => match d with
    | .tup [a, b] => bnd (mutF j.i (setAt (.int k) a)) fun _ => bnd (setV n.i b) fun _ => ret .nx
    | _ => fail
  | .setI j i _ e _ => bnd (den Γ e) fun d => bnd (peekL j.i) fun _ => bnd (den Γ i) fun y => bnd (mutF j.i (setAt y d)) fun _ => ret .nx
  | .setF j k f _ e _ => bnd (den Γ e) fun d => bnd (setFld j.i k f Γ.fn d) fun _ => ret .nx
  | .iff c a b _ => bnd (tst Γ c) fun t => if t then execs Γ a else execs Γ b
  | .whl c a _ => whileM (tst Γ c) (execs Γ a) Γ.wf
  | .for t it a _ => bnd (denIt Γ it) fun items => forM t (execs Γ a) items
  | .ret e _ => bnd (den Γ e) fun d => ret (.rt (.leaf d))
  | .retO e _ => bnd (denOE Γ e) rtM
  | .setII j i _ i2 _ e _ => bnd (den Γ e) fun d => setII (den Γ i) (den Γ i2) j.i d
  | .bad _ => fail
def execs (Γ : Env) : Ts → M Fl
  | .nil => ret .nx
  | .cons t ts => andThen (exec Γ t) (execs Γ ts)
end
def Nm.py (n : Nm) : Expr := .Name n.x n.p
mutual
def T.py : T → Stmt
  | .pass p => .Pass p
  | .exp e p => .Expr e.py p
  | .set n e p => .Assign [n.py] e.e.py p
  | .asg t e p => .Assign [t.py] e.py p
  | .par t kt pt es ke pe p => .Assign [.Tuple (t.map Nm.py) kt pt] (.Tuple (es.map fun e => e.e.py) ke pe) p
  | .subnm j k kk pk q n kt pt e p => .Assign [.Tuple [.Subscript j.py (.Constant (.int k) kk pk) q, n.py] kt pt] e.py p
  | .setI j i q e p => .Assign [.Subscript j.py i.py q] e.py p
  | .setF j _ f q e p => .Assign [.Attribute j.py f q] e.py p
  | .iff c a b p => .If c.py a.py b.py p
  | .whl c a p => .While c.py a.py [] p
  | .for t it a p => .For t.py it.py a.py [] p
  | .ret e p => .Return (some e.py) p
  | .retO e p => .Return (some e.e.py) p
  | .setII j i q1 i2 q2 e p => .Assign [.Subscript (.Subscript j.py i.py q1) i2.py q2] e.py p
  | .bad st => st
def Ts.py : Ts → List Stmt
  | .nil => []
  | .cons t ts => t.py :: ts.py
end
end Dm

/-! The D machine: what data stands where. -/
namespace Dm
open PySem L2

/-- who may change what stands at an address -/
inductive Ow where
  | no | slot (i : Nat) (p : List Nat) | cell (j : Nat) (p : List Nat) | res (p : List Nat) | out
abbrev Wm := Addr → Ow
def noW : Wm := fun _ => .no

structure Cc where
  K : PySem.W.Frag
  cl : Nat → Addr
  fn : Nat → List Str

def KL (K : PySem.W.Frag) (a : Addr) (xs : List V) : Prop :=
  ∃ (o : Obj) (its : Array Value) (n : Nat), K.lookup a = some o ∧ o.cls = .type "list" ∧ o.dict = none ∧ o.data = .seq its n ∧ its.size ≤ sizeLine ∧ Vals xs its.toList
def KT (K : PySem.W.Frag) (a : Addr) (xs : List V) : Prop :=
  ∃ (o : Obj) (its : Array Value) (n : Nat), K.lookup a = some o ∧ o.cls = .type "tuple" ∧ o.data = .seq its n ∧ its.size ≤ sizeLine ∧ Vals xs its.toList
def LsA (w : Wm) (H : Hp) (a : Addr) (xs : List V) : Prop := w a = .no ∧ H a = some (.lst xs)
def TpA (w : Wm) (H : Hp) (a : Addr) (xs : List V) : Prop := w a = .no ∧ H a = some (.tup xs)
def ScA (c : Cc) (w : Wm) (H : Hp) (a : Addr) (xs : List V) : Prop := (w a = .no ∧ Rd H a (.lst xs)) ∨ KL c.K a xs

mutual
inductive Is (c : Cc) (w : Wm) (H : Hp) : V → D → Prop
  | non : Is c w H .non .non
  | bl (b : Bool) : Is c w H (.bl b) (.bl b)
  | int (i : Int) : Is c w H (.int i) (.int i)
  | str (x : Str) : Is c w H (.str x) (.str x)
  | lst {a : Addr} {vs : List V} {ds : List D} : LsA w H a vs → IsAll c w H vs ds → Is c w H (.ref a) (.lst ds)
  | tup {a : Addr} {vs : List V} {ds : List D} : TpA w H a vs → IsAll c w H vs ds → Is c w H (.ref a) (.tup ds)
  | obj {a dx : Addr} {vs : List V} {ds : List D} {k : Nat} : w a = .no → H a = some (.ins (c.cl k) dx ((c.fn k).zip vs)) → vs.length ≤ (c.fn k).length → IsAll c w H vs ds → Is c w H (.ref a) (.obj k ds)
  | scr {a : Addr} {ns : List Int} : ScA c w H a (ns.map V.int) → Is c w H (.ref a) (.scr ns)
inductive IsAll (c : Cc) (w : Wm) (H : Hp) : List V → List D → Prop
  | nil : IsAll c w H [] []
  | cons {v : V} {vs : List V} {d : D} {ds : List D} : Is c w H v d → IsAll c w H vs ds → IsAll c w H (v :: vs) (d :: ds)
end
/-- the inner lists of a list of lists, from the n-th on -/
inductive IsRows (c : Cc) (w : Wm) (H : Hp) (k : List Nat → Ow) : Nat → List V → List (List D) → Prop
  | nil {n : Nat} : IsRows c w H k n [] []
  | cons {n : Nat} {a : Addr} {us : List V} {vs : List V} {ds : List D} {dss : List (List D)} : w a = k [n] → H a = some (.lst us) → IsAll c w H us ds → IsRows c w H k (n + 1) vs dss → IsRows c w H k n (.ref a :: vs) (ds :: dss)
inductive IsO (c : Cc) (w : Wm) (H : Hp) (k : List Nat → Ow) : V → OD → Prop
  | leaf {v : V} {d : D} : Is c w H v d → IsO c w H k v (.leaf d)
  | fl {a : Addr} {vs : List V} {ds : List D} : w a = k [] → H a = some (.lst vs) → IsAll c w H vs ds → IsO c w H k (.ref a) (.fl ds)
  | ll {a : Addr} {vs : List V} {dss : List (List D)} : w a = k [] → H a = some (.lst vs) → IsRows c w H k 0 vs dss → IsO c w H k (.ref a) (.ll dss)
  | oobj {a dx : Addr} {vs : List V} {ds : List D} {q : Nat} : w a = k [] → H a = some (.ins (c.cl q) dx ((c.fn q).zip vs)) → vs.length ≤ (c.fn q).length → IsAll c w H vs ds → IsO c w H k (.ref a) (.oobj q ds)

/-- what nobody owns (or an outer one owns) stays -/
def Step (w : Wm) (H : Hp) (w' : Wm) (H' : Hp) : Prop := ∀ a o, H a = some o → (w a = .no ∨ w a = .out) → H' a = some o ∧ w' a = w a
theorem Step.refl (w : Wm) (H : Hp) : Step w H w H := fun _ _ h _ => ⟨h, rfl⟩
theorem Step.trans {w w1 w2 : Wm} {H H1 H2 : Hp} (a : Step w H w1 H1) (b : Step w1 H1 w2 H2) : Step w H w2 H2 := fun x o h k => by
  obtain ⟨h1, k1⟩ := a x o h k
  obtain ⟨h2, k2⟩ := b x o h1 (by rw [k1]; exact k)
  exact ⟨h2, k2.trans k1⟩

/-- .. by what nobody owns alone -/
def StepN (w : Wm) (H : Hp) (w' : Wm) (H' : Hp) : Prop := ∀ a o, H a = some o → w a = .no → H' a = some o ∧ w' a = .no
theorem Step.n {w w' : Wm} {H H' : Hp} (s : Step w H w' H') : StepN w H w' H' := fun a o h k => ⟨(s a o h (.inl k)).1, (s a o h (.inl k)).2.trans k⟩
section
variable {c : Cc} {w w' : Wm} {H H' : Hp}
theorem rd_step {a : Addr} {u : HO} (s : StepN w H w' H') (h : w a = .no) (r : Rd H a u) : w' a = .no ∧ Rd H' a u := by
  rcases r with r | ⟨o, r⟩
  · obtain ⟨h1, h2⟩ := s a _ r h
    exact ⟨h2, .inl h1⟩
  · obtain ⟨h1, h2⟩ := s a _ r h
    exact ⟨h2, .inr ⟨o, h1⟩⟩
theorem ScA.stepN {a : Addr} {xs : List V} (s : StepN w H w' H') (h : ScA c w H a xs) : ScA c w' H' a xs := by
  rcases h with ⟨h1, h2⟩ | h
  · exact .inl (rd_step s h1 h2)
  · exact .inr h
theorem LsA.stepN {a : Addr} {xs : List V} (s : StepN w H w' H') (h : LsA w H a xs) : LsA w' H' a xs := ⟨(s a _ h.2 h.1).2, (s a _ h.2 h.1).1⟩
theorem TpA.stepN {a : Addr} {xs : List V} (s : StepN w H w' H') (h : TpA w H a xs) : TpA w' H' a xs := ⟨(s a _ h.2 h.1).2, (s a _ h.2 h.1).1⟩
theorem LsA.step {a : Addr} {xs : List V} (s : Step w H w' H') (h : LsA w H a xs) : LsA w' H' a xs := h.stepN s.n
theorem TpA.step {a : Addr} {xs : List V} (s : Step w H w' H') (h : TpA w H a xs) : TpA w' H' a xs := h.stepN s.n
theorem ScA.sq {a : Addr} {xs : List V} (h : ScA c w H a xs) : SqL c.K H a xs := by
  rcases h with ⟨_, h2⟩ | h
  · exact .inl h2
  · exact .inr h
theorem LsA.sq {K : PySem.W.Frag} {a : Addr} {xs : List V} (h : LsA w H a xs) : SqL K H a xs := .of h.2
theorem TpA.sq {K : PySem.W.Frag} {a : Addr} {xs : List V} (h : TpA w H a xs) : SqT K H a xs := .of h.2
theorem LsA.weak {a : Addr} {xs : List V} (h : LsA w H a xs) : LsA noW H a xs := ⟨rfl, h.2⟩
theorem TpA.weak {a : Addr} {xs : List V} (h : TpA w H a xs) : TpA noW H a xs := ⟨rfl, h.2⟩
theorem ScA.weak {a : Addr} {xs : List V} (h : ScA c w H a xs) : ScA c noW H a xs := by
  rcases h with ⟨_, h2⟩ | h
  · exact .inl ⟨rfl, h2⟩
  · exact .inr h
mutual
theorem Is.stepN (s : StepN w H w' H') : ∀ {v : V} {d : D}, Is c w H v d → Is c w' H' v d
  | _, _, .non => .non
  | _, _, .bl b => .bl b
  | _, _, .int i => .int i
  | _, _, .str x => .str x
  | _, _, .lst h r => .lst (h.stepN s) (IsAll.stepN s r)
  | _, _, .tup h r => .tup (h.stepN s) (IsAll.stepN s r)
  | _, _, .obj h1 h2 h3 r => .obj (s _ _ h2 h1).2 (s _ _ h2 h1).1 h3 (IsAll.stepN s r)
  | _, _, .scr h => .scr (h.stepN s)
theorem IsAll.stepN (s : StepN w H w' H') : ∀ {vs : List V} {ds : List D}, IsAll c w H vs ds → IsAll c w' H' vs ds
  | _, _, .nil => .nil
  | _, _, .cons h r => .cons (Is.stepN s h) (IsAll.stepN s r)
end
theorem Is.step (s : Step w H w' H') {v : V} {d : D} (h : Is c w H v d) : Is c w' H' v d := h.stepN s.n
theorem IsAll.step (s : Step w H w' H') {vs : List V} {ds : List D} (h : IsAll c w H vs ds) : IsAll c w' H' vs ds := h.stepN s.n
mutual
theorem Is.weak : ∀ {v : V} {d : D}, Is c w H v d → Is c noW H v d
  | _, _, .non => .non
  | _, _, .bl b => .bl b
  | _, _, .int i => .int i
  | _, _, .str x => .str x
  | _, _, .lst h r => .lst h.weak (IsAll.weak r)
  | _, _, .tup h r => .tup h.weak (IsAll.weak r)
  | _, _, .obj h1 h2 h3 r => .obj rfl h2 h3 (IsAll.weak r)
  | _, _, .scr h => .scr h.weak
theorem IsAll.weak : ∀ {vs : List V} {ds : List D}, IsAll c w H vs ds → IsAll c noW H vs ds
  | _, _, .nil => .nil
  | _, _, .cons h r => .cons (Is.weak h) (IsAll.weak r)
end
theorem IsRows.read {k : List Nat → Ow} : ∀ {n : Nat} {vs : List V} {dss : List (List D)}, IsRows c w H k n vs dss → IsAll c noW H vs (dss.map D.lst)
  | _, _, _, .nil => .nil
  | _, _, _, .cons _ h r t => .cons (.lst ⟨rfl, h⟩ r.weak) (IsRows.read t)
theorem IsO.read {k : List Nat → Ow} {v : V} {o : OD} (h : IsO c w H k v o) : Is c noW H v o.toD := by
  cases h with
  | leaf h => exact h.weak
  | fl _ h r => exact .lst ⟨rfl, h⟩ r.weak
  | ll _ h r => exact .lst ⟨rfl, h⟩ r.read
  | oobj _ h2 h3 r => exact .obj rfl h2 h3 r.weak
theorem IsAll.length : ∀ {vs : List V} {ds : List D}, IsAll c w H vs ds → vs.length = ds.length
  | _, _, .nil => rfl
  | _, _, .cons _ r => by rw [List.length_cons, List.length_cons, IsAll.length r]
theorem IsAll.get : ∀ {vs : List V} {ds : List D}, IsAll c w H vs ds → ∀ {i : Nat} {d : D}, ds[i]? = some d → ∃ v, vs[i]? = some v ∧ Is c w H v d
  | _, _, .nil, _, _, e => by simp at e
  | _, _, .cons h r, 0, _, e => by simp at e; subst e; exact ⟨_, rfl, h⟩
  | _, _, .cons h r, i + 1, d, e => by
    obtain ⟨v, e1, e2⟩ := IsAll.get r (i := i) (d := d) (by simpa using e)
    exact ⟨v, by simpa using e1, e2⟩
theorem IsAll.get' : ∀ {vs : List V} {ds : List D}, IsAll c w H vs ds → ∀ {i : Nat} {v : V}, vs[i]? = some v → ∃ d, ds[i]? = some d ∧ Is c w H v d
  | _, _, .nil, _, _, e => by simp at e
  | _, _, .cons h r, 0, _, e => by simp at e; subst e; exact ⟨_, rfl, h⟩
  | _, _, .cons h r, i + 1, d, e => by
    obtain ⟨v, e1, e2⟩ := IsAll.get' r (i := i) (v := d) (by simpa using e)
    exact ⟨v, by simpa using e1, e2⟩
theorem IsAll.append : ∀ {vs us : List V} {ds es : List D}, IsAll c w H vs ds → IsAll c w H us es → IsAll c w H (vs ++ us) (ds ++ es)
  | _, _, _, _, .nil, s => s
  | _, _, _, _, .cons h r, s => .cons h (IsAll.append r s)
theorem IsAll.take : ∀ {vs : List V} {ds : List D} (n : Nat), IsAll c w H vs ds → IsAll c w H (vs.take n) (ds.take n)
  | _, _, 0, _ => .nil
  | _, _, _ + 1, .nil => .nil
  | _, _, n + 1, .cons h r => .cons h (IsAll.take n r)
theorem IsAll.drop : ∀ {vs : List V} {ds : List D} (n : Nat), IsAll c w H vs ds → IsAll c w H (vs.drop n) (ds.drop n)
  | _, _, 0, r => r
  | _, _, _ + 1, .nil => .nil
  | _, _, n + 1, .cons h r => IsAll.drop n r
/-- the kit's own reading -/
theorem can_obj {k : Nat} {ds : List D} (h : (D.py (.obj k ds)).canLay0 = true) : False := by
  rw [D.py] at h; simp [PyData.canLay0] at h
mutual
theorem Is.dp : ∀ {v : V} {d : D}, Is c w H v d → d.py.canLay0 = true → Dp c.K H v d.py
  | _, _, .non, _ => by rw [D.py]; exact .non
  | _, _, .bl b, _ => by rw [D.py]; exact .bl b
  | _, _, .int i, _ => by rw [D.py]; exact .int i
  | _, _, .str x, _ => by rw [D.py]; exact .str x
  | _, _, .lst h r, k => by
    rw [D.py] at k ⊢
    exact .lst h.sq (IsAll.dp r (by simpa [PyData.canLay0] using k))
  | _, _, .tup h r, k => by
    rw [D.py] at k ⊢
    exact .tup h.sq (IsAll.dp r (by simpa [PyData.canLay0] using k))
  | _, _, .obj _ _ _ _, k => (can_obj k).elim
  | _, _, .scr _, k => by rw [D.py] at k; simp [PyData.canLay0] at k
theorem IsAll.dp : ∀ {vs : List V} {ds : List D}, IsAll c w H vs ds → PyData.canLayAll0 (D.pys ds) = true → DpAll c.K H vs (D.pys ds)
  | _, _, .nil, _ => by rw [D.pys]; exact .nil
  | _, _, .cons h r, k => by
    rw [D.pys] at k ⊢
    rw [PyData.canLayAll0, Bool.and_eq_true] at k
    exact .cons (Is.dp h k.1) (IsAll.dp r k.2)
end
theorem Is.shaped {v : V} {d : D} (h : Is c w H v d) (k : SeqAt.shaped d.py = true) : Dp c.K H v d.py := h.dp (SeqAt.canLay_of_shaped k)
end

/-! ### the state -/
def sow (i : Nat) : List Nat → Ow := fun p => .slot i p
def cow (j : Nat) : List Nat → Ow := fun p => .cell j p
def SlotOk (c : Cc) (w : Wm) (rs : List V) (H : Hp) (i : Nat) (x : Option V) : Slot → Prop
  | .no => True
  | .val d => ∃ v, x = some v ∧ Is c w H v d
  | .own o => ∃ v, x = some v ∧ IsO c w H (sow i) v o
  | .ref j => ∃ v, x = some v ∧ rs[j]? = some v
structure Rel (c : Cc) (w : Wm) (rs : List V) (s : St) (σ : L2.St) (H : Hp) : Prop where
  len : s.L.length = σ.length
  sl : ∀ (i : Nat) (y : Slot) (x : Option V), s.L[i]? = some y → σ[i]? = some x → SlotOk c w rs H i x y
  st : ∀ (j : Nat) (o : OD), s.S[j]? = some o → ∃ v, rs[j]? = some v ∧ IsO c w H (cow j) v o

section
variable {c : Cc} {w w' : Wm} {H H' : Hp} {rs : List V} {s : St} {σ : L2.St}
theorem Rel.at (R : Rel c w rs s σ H) {i : Nat} {y : Slot} (h : s.L[i]? = some y) : ∃ x, σ[i]? = some x ∧ SlotOk c w rs H i x y := by
  have hi : i < σ.length := by rw [← R.len]; exact (List.getElem?_eq_some_iff.mp h).1
  exact ⟨σ[i], by simp [hi], R.sl i y _ h (by simp [hi])⟩
theorem Rel.val (R : Rel c w rs s σ H) {i : Nat} {d : D} (h : s.L[i]? = some (.val d)) : ∃ v, σ[i]? = some (some v) ∧ Is c w H v d := by
  obtain ⟨x, e, v, rfl, q⟩ := R.at h
  exact ⟨v, e, q⟩

/-- a new address: nobody's -/
def wnew (w : Wm) (p : Addr) : Wm := fun a => if a = p then .no else w a
theorem Step.new {p : Addr} {o : HO} (hp : H p = none) : Step w H (wnew w p) (upd H p o) := fun a u h _ => by
  have ne : a ≠ p := ne_of_none h hp
  exact ⟨by rw [upd_ne ne]; exact h, by unfold wnew; rw [if_neg ne]⟩
theorem IsRows.keepN {k : List Nat → Ow} (s : StepN w H w' H') (hk : ∀ a o p, H a = some o → w a = k p → H' a = some o ∧ w' a = w a) :
    ∀ {n : Nat} {vs : List V} {dss : List (List D)}, IsRows c w H k n vs dss → IsRows c w' H' k n vs dss
  | _, _, _, .nil => .nil
  | _, _, _, .cons h1 h2 r t => .cons ((hk _ _ _ h2 h1).2.trans h1) (hk _ _ _ h2 h1).1 (r.stepN s) (IsRows.keepN s hk t)
theorem IsO.keepN {k : List Nat → Ow} (s : StepN w H w' H') (hk : ∀ a o p, H a = some o → w a = k p → H' a = some o ∧ w' a = w a) {v : V} {o : OD} (h : IsO c w H k v o) : IsO c w' H' k v o := by
  cases h with
  | leaf h => exact .leaf (h.stepN s)
  | fl h1 h2 r => exact .fl ((hk _ _ _ h2 h1).2.trans h1) (hk _ _ _ h2 h1).1 (r.stepN s)
  | ll h1 h2 r => exact .ll ((hk _ _ _ h2 h1).2.trans h1) (hk _ _ _ h2 h1).1 (r.keepN s hk)
  | oobj h1 h2 h3 r => exact .oobj ((hk _ _ _ h2 h1).2.trans h1) (hk _ _ _ h2 h1).1 h3 (r.stepN s)
/-- an owned tree stays, where its own addresses and what nobody owns stay -/
theorem IsO.keep {k : List Nat → Ow} (s : Step w H w' H') (hk : ∀ a o p, H a = some o → w a = k p → H' a = some o ∧ w' a = w a) {v : V} {o : OD} (h : IsO c w H k v o) : IsO c w' H' k v o := h.keepN s.n hk
/-- what nobody owns stays, what the slots and cells own stays: the relation does -/
theorem Rel.keepN (R : Rel c w rs s σ H) (st : StepN w H w' H') (hs : ∀ a o i p, H a = some o → w a = .slot i p → H' a = some o ∧ w' a = w a) (hc : ∀ a o i p, H a = some o → w a = .cell i p → H' a = some o ∧ w' a = w a) : Rel c w' rs s σ H' := by
  refine ⟨R.len, fun i y x e1 e2 => ?_, fun j o e => ?_⟩
  · have q := R.sl i y x e1 e2
    cases y with
    | no => trivial
    | val d => obtain ⟨v, e, q⟩ := q; exact ⟨v, e, q.stepN st⟩
    | own o => obtain ⟨v, e, q⟩ := q; exact ⟨v, e, q.keepN st fun a o p e1 e2 => hs a o _ _ e1 e2⟩
    | ref j => exact q
  · obtain ⟨v, e1, q⟩ := R.st j o e
    exact ⟨v, e1, q.keepN st fun a o p e1 e2 => hc a o _ _ e1 e2⟩
/-- all that was tracked stays: the whole relation does -/
theorem Rel.ext (R : Rel c w rs s σ H) (h : ∀ a o, H a = some o → H' a = some o ∧ w' a = w a) : Rel c w' rs s σ H' := by
  have st : Step w H w' H' := fun a o e _ => h a o e
  refine ⟨R.len, fun i y x e1 e2 => ?_, fun j o e => ?_⟩
  · have q := R.sl i y x e1 e2
    cases y with
    | no => trivial
    | val d => obtain ⟨v, e, q⟩ := q; exact ⟨v, e, q.step st⟩
    | own o => obtain ⟨v, e, q⟩ := q; exact ⟨v, e, q.keep st fun a o p e1 _ => h a o e1⟩
    | ref j => exact q
  · obtain ⟨v, e1, q⟩ := R.st j o e
    exact ⟨v, e1, q.keep st fun a o p e1 _ => h a o e1⟩
theorem Rel.new {p : Addr} {o : HO} (R : Rel c w rs s σ H) (hp : H p = none) : Rel c (wnew w p) rs s σ (upd H p o) := by
  refine R.ext fun a u h => ?_
  have ne : a ≠ p := ne_of_none h hp
  exact ⟨by rw [upd_ne ne]; exact h, by unfold wnew; rw [if_neg ne]⟩
theorem Is.newL {p : Addr} {vs : List V} {ds : List D} (r : IsAll c w H vs ds) (hp : H p = none) : Is c (wnew w p) (upd H p (.lst vs)) (.ref p) (.lst ds) :=
  .lst ⟨by unfold wnew; rw [if_pos rfl], upd_same⟩ (r.step (Step.new hp))
theorem Is.newT {p : Addr} {vs : List V} {ds : List D} (r : IsAll c w H vs ds) (hp : H p = none) : Is c (wnew w p) (upd H p (.tup vs)) (.ref p) (.tup ds) :=
  .tup ⟨by unfold wnew; rw [if_pos rfl], upd_same⟩ (r.step (Step.new hp))

/-- own no more -/
def wfree (w : Wm) (i : Nat) : Wm := fun a => match w a with | .slot j p => if j = i then .no else .slot j p | x => x
theorem Step.free (i : Nat) : Step w H (wfree w i) H := fun a o h k => by
  refine ⟨h, ?_⟩
  unfold wfree
  rcases k with k | k <;> rw [k]
theorem wfree_ne {i : Nat} {a : Addr} {k : List Nat → Ow} {p : List Nat} (h : w a = k p) (hk : ∀ p q, k p ≠ .slot i q) : wfree w i a = k p := by
  unfold wfree
  rw [h]
  cases e : k p with
  | slot j q =>
    simp only
    rw [if_neg]
    intro z; subst z
    exact hk p q e
  | _ => rfl
theorem wfree_own {i : Nat} {a : Addr} {p : List Nat} (h : w a = sow i p) : wfree w i a = .no := by
  unfold wfree; rw [h]; simp [sow]
theorem IsRows.free {i : Nat} : ∀ {n : Nat} {vs : List V} {dss : List (List D)}, IsRows c w H (sow i) n vs dss → IsAll c (wfree w i) H vs (dss.map D.lst)
  | _, _, _, .nil => .nil
  | _, _, _, .cons h1 h r t => .cons (.lst ⟨wfree_own h1, h⟩ (r.step (Step.free i))) (IsRows.free t)
theorem IsO.free {i : Nat} {v : V} {o : OD} (h : IsO c w H (sow i) v o) : Is c (wfree w i) H v o.toD := by
  cases h with
  | leaf h => exact h.step (Step.free i)
  | fl h1 h r => exact .lst ⟨wfree_own h1, h⟩ (r.step (Step.free i))
  | ll h1 h r => exact .lst ⟨wfree_own h1, h⟩ r.free
  | oobj h1 h2 h3 r => exact .obj (wfree_own h1) h2 h3 (r.step (Step.free i))
theorem Rel.free (R : Rel c w rs s σ H) {i : Nat} {o : OD} (h : s.L[i]? = some (.own o)) : ∃ v, σ[i]? = some (some v) ∧ Rel c (wfree w i) rs { s with L := s.L.set i (.val o.toD) } σ H ∧ Is c (wfree w i) H v o.toD := by
  obtain ⟨x, e, v, rfl, q⟩ := R.at h
  refine ⟨v, e, ⟨by simpa using R.len, fun j y x e1 e2 => ?_, fun j o e => ?_⟩, q.free⟩
  · by_cases hj : j = i
    · subst hj
      rw [List.getElem?_set_self (by exact (List.getElem?_eq_some_iff.mp h).1)] at e1
      cases e1
      rw [e] at e2; cases e2
      exact ⟨v, rfl, q.free⟩
    · rw [List.getElem?_set_ne (Ne.symm hj)] at e1
      have z := R.sl j y x e1 e2
      cases y with
      | no => trivial
      | val d => obtain ⟨v, e, q⟩ := z; exact ⟨v, e, q.step (Step.free i)⟩
      | own o =>
        obtain ⟨v, e, q⟩ := z
        refine ⟨v, e, q.keep (Step.free i) fun a o p e1 e2 => ⟨e1, ?_⟩⟩
        rw [e2]
        exact wfree_ne e2 fun p q z => by unfold sow at z; injection z with z1 _; exact hj z1
      | ref j => exact z
  · obtain ⟨v, e1, q⟩ := R.st j o e
    refine ⟨v, e1, q.keep (Step.free i) fun a o p e1 e2 => ⟨e1, ?_⟩⟩
    rw [e2]
    exact wfree_ne e2 fun p q z => by unfold cow at z; cases z
/-- a look in passing -/
theorem Rel.peek (R : Rel c w rs s σ H) {i : Nat} {o : OD} (h : peekO s i = some o) : ∃ v k, σ[i]? = some (some v) ∧ IsO c w H k v o := by
  unfold peekO at h
  split at h
  · rename_i d e
    cases h
    obtain ⟨v, e, q⟩ := R.val e
    exact ⟨v, sow i, e, .leaf q⟩
  · rename_i o' e
    cases h
    obtain ⟨x, e, v, rfl, q⟩ := R.at e
    exact ⟨v, sow i, e, q⟩
  · rename_i j e
    obtain ⟨x, e, v, rfl, e1⟩ := R.at e
    obtain ⟨v', e3, q⟩ := R.st j o h
    rw [e1] at e3; cases e3
    exact ⟨v, cow j, e, q⟩
  · cases h
end
end Dm

/-! The D machine: expressions are read as they mean. -/
namespace Dm
open PySem L2

theorem bnd_some {α β : Type} {m : M α} {k : α → M β} {s : St} {r : β × St} : bnd m k s = some r ↔ ∃ a s', m s = some (a, s') ∧ k a s' = some r := by
  unfold bnd
  constructor
  · intro h
    split at h
    · cases h
    · rename_i a s' e; exact ⟨a, s', e, h⟩
  · rintro ⟨a, s', e, h⟩
    rw [e]; exact h
theorem ret_some {α : Type} {a : α} {s : St} {r : α × St} : ret a s = some r ↔ r = (a, s) := by
  unfold ret
  constructor
  · intro h; exact (Option.some.inj h).symm
  · rintro rfl; rfl
theorem ofO_some {α : Type} {o : Option α} {s : St} {r : α × St} : ofO o s = some r ↔ ∃ a, o = some a ∧ r = (a, s) := by
  cases o with
  | none => simp [ofO, fail]
  | some a => simp [ofO, ret_some]
theorem fail_some {α : Type} {s : St} {r : α × St} : fail s = some r ↔ False := by simp [fail]

def tM (c : Cc) (P : Wm → Hp → V → D → Prop) (m : M D) : TE := fun σ H Q => ∃ w rs s d s', Rel c w rs s σ H ∧ m s = some (d, s') ∧
  ∀ v H' w', Rel c w' rs s' σ H' → P w' H' v d → Step w H w' H' → Q v H'
/-- an expression; an operand -/
abbrev tE (c : Cc) (m : M D) : TE := tM c (Is c) m
abbrev tR (c : Cc) (m : M D) : TE := tM c (fun _ => Is c noW) m
def tL (c : Cc) (m : M (List D)) : TA := fun σ H Q => ∃ w rs s d s', Rel c w rs s σ H ∧ m s = some (d, s') ∧
  ∀ v H' w', Rel c w' rs s' σ H' → IsAll c w' H' v d → Step w H w' H' → Q v H'
def tBo (c : Cc) (m : M Bool) : TT := fun σ H Q => ∃ w rs s d s', Rel c w rs s σ H ∧ m s = some (d, s') ∧
  ∀ H' w', Rel c w' rs s' σ H' → Step w H w' H' → Q d H'
def trM (m : M D) : M Bool := bnd m fun x => ofO x.tr

section
variable {X : Cx} {c : Cc} {e : Expr} {es : List Expr}
theorem pimp {t t' : TE} (h : PE X e t) (k : ∀ σ H Q, t' σ H Q → t σ H Q) : PE X e t' := ⟨fun pins s σ H Q I q => h.run pins s σ H Q I (k σ H Q q)⟩
theorem pimpA {t t' : TA} (h : PA X es t) (k : ∀ σ H Q, t' σ H Q → t σ H Q) : PA X es t' := ⟨fun pos pins s σ H Q I q => h.run pos pins s σ H Q I (k σ H Q q)⟩
theorem pimpT {t t' : TT} (h : PT X e t) (k : ∀ σ H Q, t' σ H Q → t σ H Q) : PT X e t' := ⟨fun pins s σ H Q I q => h.run pins s σ H Q I (k σ H Q q)⟩

theorem tE_r {m : M D} (h : PE X e (tE c m)) : PE X e (tR c m) := pimp h fun σ H Q ⟨w, rs, s, d, s', R, e, k⟩ => ⟨w, rs, s, d, s', R, e, fun v H' w' R' q st => k v H' w' R' q.weak st⟩

/-- a name -/
theorem d_var {i : Nat} (h : PE X e (tVar i)) : PE X e (tE c (readVar i)) := pimp h fun σ H Q ⟨w, rs, s, d, s', R, e, k⟩ => by
  unfold readVar at e
  split at e
  · rename_i d' e'
    cases e
    obtain ⟨v, e2, q⟩ := R.val e'
    exact ⟨v, e2, k v H w R q (Step.refl _ _)⟩
  · rename_i o e'
    cases e
    obtain ⟨v, e2, R', q⟩ := R.free e'
    exact ⟨v, e2, k v H _ R' q (Step.free i)⟩
  · cases e
theorem d_bv {i : Nat} (h : PE X e (tVar i)) : PE X e (tR c (peek i)) := pimp h fun σ H Q ⟨w, rs, s, d, s', R, e, k⟩ => by
  unfold peek at e
  split at e
  · rename_i o e'
    cases e
    obtain ⟨v, kk, e2, q⟩ := R.peek e'
    exact ⟨v, e2, k v H w R q.read (Step.refl _ _)⟩
  · cases e
theorem d_con {v : V} {d : D} (h : PE X e (tC v)) (hv : ∀ w H, Is c w H v d) : PE X e (tE c (ofO (some d))) := pimp h fun σ H Q ⟨w, rs, s, d', s', R, e, k⟩ => by
  obtain ⟨a, ea, eb⟩ := ofO_some.mp e
  cases ea; cases eb
  exact k v H w R (hv w H) (Step.refl _ _)

/-- what is wanted of an operation by values -/
def Op2 (c : Cc) (P1 P2 : Wm → Hp → V → D → Prop) (f : D → D → Option D) (r : R2) : Prop :=
  ∀ w H x y d1 d2 d (Q : VK), P1 w H x d1 → P2 w H y d2 → f d1 d2 = some d → (∀ v H' w', (∀ a o, H a = some o → H' a = some o ∧ w' a = w a) → Is c w' H' v d → Q v H') → r x y H Q
def Op1 (c : Cc) (P1 : Wm → Hp → V → D → Prop) (f : D → Option D) (r : V → Hp → VK → Prop) : Prop :=
  ∀ w H x d1 d (Q : VK), P1 w H x d1 → f d1 = some d → (∀ v H' w', (∀ a o, H a = some o → H' a = some o ∧ w' a = w a) → Is c w' H' v d → Q v H') → r x H Q
abbrev Rd0 (c : Cc) : Wm → Hp → V → D → Prop := fun _ => Is c noW
theorem i_two {P2 : Wm → Hp → V → D → Prop} {m1 m2 : M D} {f : D → D → Option D} {r : R2} (hr : Op2 c (Is c) P2 f r) :
    ∀ σ H Q, tE c (bnd m1 fun x => bnd m2 fun y => ofO (f x y)) σ H Q → tOp r (tE c m1) (tM c P2 m2) σ H Q := fun σ H Q ⟨w, rs, s, d, s', R, e, k⟩ => by
  obtain ⟨d1, s1, e1, e⟩ := bnd_some.mp e
  obtain ⟨d2, s2, e2, e⟩ := bnd_some.mp e
  obtain ⟨d3, e3, e⟩ := ofO_some.mp e
  cases e
  refine ⟨w, rs, s, d1, s1, R, e1, fun v1 H1 w1 R1 q1 st1 => ?_⟩
  refine ⟨w1, rs, s1, d2, _, R1, e2, fun v2 H2 w2 R2 q2 st2 => ?_⟩
  refine hr w2 H2 v1 v2 d1 d2 _ Q (q1.step st2) q2 e3 fun v H' w' hx q => ?_
  have st3 : Step w2 H2 w' H' := fun a o e _ => hx a o e
  exact k v H' w' (R2.ext hx) q ((st1.trans st2).trans st3)
theorem d_two {P2 : Wm → Hp → V → D → Prop} {m1 m2 : M D} {f : D → D → Option D} {e : Expr} {r : R2} (h : PE X e (tOp r (tE c m1) (tM c P2 m2))) (hr : Op2 c (Is c) P2 f r) :
    PE X e (tE c (bnd m1 fun x => bnd m2 fun y => ofO (f x y))) := pimp h (i_two hr)
theorem d_one {P1 : Wm → Hp → V → D → Prop} {m1 : M D} {f : D → Option D} {e : Expr} {r : V → Hp → VK → Prop} (h : PE X e (tUn r (tM c P1 m1))) (hr : Op1 c P1 f r) :
    PE X e (tE c (bnd m1 fun x => ofO (f x))) := pimp h fun σ H Q ⟨w, rs, s, d, s', R, e, k⟩ => by
  obtain ⟨d1, s1, e1, e⟩ := bnd_some.mp e
  obtain ⟨d3, e3, e⟩ := ofO_some.mp e
  cases e
  refine ⟨w, rs, s, d1, _, R, e1, fun v1 H1 w1 R1 q1 st1 => ?_⟩
  refine hr w1 H1 v1 d1 _ Q q1 e3 fun v H' w' hx q => ?_
  have st3 : Step w1 H1 w' H' := fun a o e _ => hx a o e
  exact k v H' w' (R1.ext hx) q (st1.trans st3)
/-- the first operand a name that is looked at when the second stands -/
theorem Rel.peekV {w : Wm} {rs : List V} {s s' : St} {σ : L2.St} {H : Hp} {i : Nat} {d : D} (R : Rel c w rs s σ H) (h : Dm.peek i s = some (d, s')) : s' = s ∧ ∃ v o k, σ[i]? = some (some v) ∧ IsO c w H k v o ∧ d = o.toD ∧ peekO s i = some o := by
  unfold Dm.peek at h
  split at h
  · rename_i o e'
    cases h
    obtain ⟨v, kk, e2, q⟩ := R.peek e'
    exact ⟨rfl, v, o, kk, e2, q, rfl, e'⟩
  · cases h
theorem i_bvtwo {P2 : Wm → Hp → V → D → Prop} {i : Nat} {m2 : M D} {f : D → D → Option D} {r : R2} (hr : Op2 c (Rd0 c) P2 f r) :
    ∀ σ H Q, tE c (bnd (peek i) fun _ => bnd m2 fun y => bnd (peek i) fun x => ofO (f x y)) σ H Q → tOp r (tVar i) (tM c P2 m2) σ H Q := fun σ H Q ⟨w, rs, s, d, s', R, e, k⟩ => by
  obtain ⟨d0, s0, e0, e5⟩ := bnd_some.mp e
  obtain ⟨d2, s2, e2, e6⟩ := bnd_some.mp e5
  obtain ⟨d1, s1, e1, e7⟩ := bnd_some.mp e6
  obtain ⟨d3, e3, e8⟩ := ofO_some.mp e7
  injection e8 with e8 e9
  subst e8 e9
  obtain ⟨rfl, v, o, kk, hv, _, _, _⟩ := R.peekV e0
  refine ⟨v, hv, w, rs, s0, d2, s2, R, e2, fun v2 H2 w2 R2 q2 st2 => ?_⟩
  obtain ⟨rfl, v', o', kk', hv', q1, rfl, _⟩ := R2.peekV e1
  rw [hv] at hv'; cases hv'
  refine hr w2 H2 v v2 _ d2 _ Q q1.read q2 e3 fun v H' w' hx q => ?_
  have st3 : Step w2 H2 w' H' := fun a o e _ => hx a o e
  exact k v H' w' (R2.ext hx) q (st2.trans st3)
theorem d_bvtwo {P2 : Wm → Hp → V → D → Prop} {i : Nat} {m2 : M D} {f : D → D → Option D} {e : Expr} {r : R2} (h : PE X e (tOp r (tVar i) (tM c P2 m2))) (hr : Op2 c (Rd0 c) P2 f r) :
    PE X e (tE c (bnd (peek i) fun _ => bnd m2 fun y => bnd (peek i) fun x => ofO (f x y))) := pimp h (i_bvtwo hr)
/-- arguments -/
theorem d_nil : PA X [] (tL c (ret [])) := pimpA pa_nil fun σ H Q ⟨w, rs, s, d, s', R, e, k⟩ => by
  cases ret_some.mp e
  exact k [] H w R .nil (Step.refl _ _)
theorem d_cons {m : M D} {ms : M (List D)} {e : Expr} (h : PA X (e :: es) (tCons (tE c m) (tL c ms))) : PA X (e :: es) (tL c (bnd m fun d => bnd ms fun ds => ret (d :: ds))) := pimpA h fun σ H Q ⟨w, rs, s, d, s', R, e, k⟩ => by
  obtain ⟨d1, s1, e1, e⟩ := bnd_some.mp e
  obtain ⟨d2, s2, e2, e⟩ := bnd_some.mp e
  cases ret_some.mp e
  refine ⟨w, rs, s, d1, s1, R, e1, fun v1 H1 w1 R1 q1 st1 => ?_⟩
  refine ⟨w1, rs, s1, d2, _, R1, e2, fun v2 H2 w2 R2 q2 st2 => ?_⟩
  exact k _ H2 w2 R2 (.cons (q1.step st2) q2) (st1.trans st2)
theorem d_tup {ms : M (List D)} {e : Expr} (h : PE X e (tTup (tL c ms))) : PE X e (tE c (bnd ms fun ds => if ds.length ≤ sizeLine then ret (.tup ds) else fail)) := pimp h fun σ H Q ⟨w, rs, s, d, s', R, e, k⟩ => by
  obtain ⟨d1, s1, e1, e⟩ := bnd_some.mp e
  split at e
  · rename_i hz
    cases ret_some.mp e
    refine ⟨w, rs, s, d1, _, R, e1, fun v1 H1 w1 R1 q1 st1 => ⟨by rw [q1.length]; exact hz, fun p hp => ?_⟩⟩
    exact k _ _ _ (R1.new hp) (Is.newT q1 hp) (st1.trans (Step.new hp))
  · exact (fail_some.mp e).elim
theorem d_lst {ms : M (List D)} {e : Expr} (h : PE X e (tLst (tL c ms))) : PE X e (tE c (bnd ms fun ds => if ds.length ≤ sizeLine then ret (.lst ds) else fail)) := pimp h fun σ H Q ⟨w, rs, s, d, s', R, e, k⟩ => by
  obtain ⟨d1, s1, e1, e⟩ := bnd_some.mp e
  split at e
  · rename_i hz
    cases ret_some.mp e
    refine ⟨w, rs, s, d1, _, R, e1, fun v1 H1 w1 R1 q1 st1 => ⟨by rw [q1.length]; exact hz, fun p hp => ?_⟩⟩
    exact k _ _ _ (R1.new hp) (Is.newL q1 hp) (st1.trans (Step.new hp))
  · exact (fail_some.mp e).elim

/-! ### tests, and, or, not -/
theorem d_tval {m : M D} {e : Expr} (h : PT X e (tB (tE c m))) : PT X e (tBo c (trM m)) := pimpT h fun σ H Q ⟨w, rs, s, d, s', R, e, k⟩ => by
  obtain ⟨d1, s1, e1, e⟩ := bnd_some.mp e
  obtain ⟨b, e2, e⟩ := ofO_some.mp e
  cases e
  refine ⟨w, rs, s, d1, _, R, e1, fun v1 H1 w1 R1 q1 st1 => ?_⟩
  cases d1 <;> simp only [D.tr] at e2 <;> try cases e2
  cases q1
  exact ⟨_, rfl, k H1 w1 R1 st1⟩
theorem d_not {m : M D} {e : Expr} (h : PE X e (tNotV (tE c m))) : PE X e (tE c (bnd m fun x => bnd (ofO x.tr) fun b => ret (.bl !b))) := pimp h fun σ H Q ⟨w, rs, s, d, s', R, e, k⟩ => by
  obtain ⟨d1, s1, e1, e⟩ := bnd_some.mp e
  obtain ⟨b, s2, e2, e⟩ := bnd_some.mp e
  obtain ⟨b', e3, e4⟩ := ofO_some.mp e2
  cases e4
  cases ret_some.mp e
  refine ⟨w, rs, s, d1, _, R, e1, fun v1 H1 w1 R1 q1 st1 => ?_⟩
  cases d1 <;> simp only [D.tr] at e3 <;> try cases e3
  cases q1
  exact ⟨_, rfl, k _ H1 w1 R1 (.bl _) st1⟩
/-- a op b op .. -/
theorem d_and {m m' : M D} {e : Expr} (h : PE X e (tAndV (tE c m) (tE c m'))) : PE X e (tE c (bnd m fun x => bnd (ofO x.tr) fun b => if b then m' else ret x)) := pimp h fun σ H Q ⟨w, rs, s, d, s', R, e, k⟩ => by
  obtain ⟨d1, s1, e1, e5⟩ := bnd_some.mp e
  obtain ⟨b, s2, e2, e6⟩ := bnd_some.mp e5
  obtain ⟨b', e3, e4⟩ := ofO_some.mp e2
  injection e4 with z1 z2
  subst z1 z2
  refine ⟨w, rs, s, d1, s2, R, e1, fun v1 H1 w1 R1 q1 st1 => ?_⟩
  cases d1 <;> simp only [D.tr] at e3 <;> try cases e3
  cases q1
  refine ⟨_, rfl, ?_⟩
  split at e6
  · rename_i hb
    rw [if_pos hb]
    exact ⟨w1, rs, s2, d, s', R1, e6, fun v H' w' R' q st => k v H' w' R' q (st1.trans st)⟩
  · rename_i hb
    rw [if_neg hb]
    cases ret_some.mp e6
    rw [Bool.not_eq_true] at hb
    subst hb
    exact k _ H1 w1 R1 (.bl _) st1
theorem d_or {m m' : M D} {e : Expr} (h : PE X e (tOrV (tE c m) (tE c m'))) : PE X e (tE c (bnd m fun x => bnd (ofO x.tr) fun b => if b then ret x else m')) := pimp h fun σ H Q ⟨w, rs, s, d, s', R, e, k⟩ => by
  obtain ⟨d1, s1, e1, e5⟩ := bnd_some.mp e
  obtain ⟨b, s2, e2, e6⟩ := bnd_some.mp e5
  obtain ⟨b', e3, e4⟩ := ofO_some.mp e2
  injection e4 with z1 z2
  subst z1 z2
  refine ⟨w, rs, s, d1, s2, R, e1, fun v1 H1 w1 R1 q1 st1 => ?_⟩
  cases d1 <;> simp only [D.tr] at e3 <;> try cases e3
  cases q1
  refine ⟨_, rfl, ?_⟩
  split at e6
  · rename_i hb
    rw [if_pos hb]
    cases ret_some.mp e6
    subst hb
    exact k _ H1 w1 R1 (.bl _) st1
  · rename_i hb
    rw [if_neg hb]
    exact ⟨w1, rs, s2, d, s', R1, e6, fun v H' w' R' q st => k v H' w' R' q (st1.trans st)⟩
/-- .. as tests -/
theorem i_tand {m m' : M D} : ∀ σ H Q, tBo c (trM (bnd m fun x => bnd (ofO x.tr) fun b => if b then m' else ret x)) σ H Q → tAnd (tBo c (trM m)) (tBo c (trM m')) σ H Q := fun σ H Q ⟨w, rs, s, d, s', R, e, k⟩ => by
  obtain ⟨d0, s0, e0, e00⟩ := bnd_some.mp e
  obtain ⟨d1, s1, e1, e5⟩ := bnd_some.mp e0
  obtain ⟨b, s2, e2, e6⟩ := bnd_some.mp e5
  refine ⟨w, rs, s, b, s2, R, bnd_some.mpr ⟨d1, s1, e1, e2⟩, fun H1 w1 R1 st1 => ?_⟩
  split at e6
  · rename_i hb
    rw [if_pos hb]
    exact ⟨w1, rs, s2, d, s', R1, bnd_some.mpr ⟨_, _, e6, e00⟩, fun H' w' R' st => k H' w' R' (st1.trans st)⟩
  · rename_i hb
    rw [if_neg hb]
    cases ret_some.mp e6
    obtain ⟨b', e3, e4⟩ := ofO_some.mp e2
    obtain ⟨b'', e3', e4'⟩ := ofO_some.mp e00
    rw [e3] at e3'; cases e3'
    injection e4 with z1 z2
    injection e4' with z3 z4
    subst z1 z2 z3 z4
    rw [Bool.not_eq_true] at hb
    subst hb
    exact k H1 w1 R1 st1
theorem i_tor {m m' : M D} : ∀ σ H Q, tBo c (trM (bnd m fun x => bnd (ofO x.tr) fun b => if b then ret x else m')) σ H Q → tOr (tBo c (trM m)) (tBo c (trM m')) σ H Q := fun σ H Q ⟨w, rs, s, d, s', R, e, k⟩ => by
  obtain ⟨d0, s0, e0, e00⟩ := bnd_some.mp e
  obtain ⟨d1, s1, e1, e5⟩ := bnd_some.mp e0
  obtain ⟨b, s2, e2, e6⟩ := bnd_some.mp e5
  refine ⟨w, rs, s, b, s2, R, bnd_some.mpr ⟨d1, s1, e1, e2⟩, fun H1 w1 R1 st1 => ?_⟩
  split at e6
  · rename_i hb
    rw [if_pos hb]
    cases ret_some.mp e6
    obtain ⟨b', e3, e4⟩ := ofO_some.mp e2
    obtain ⟨b'', e3', e4'⟩ := ofO_some.mp e00
    rw [e3] at e3'; cases e3'
    injection e4 with z1 z2
    injection e4' with z3 z4
    subst z1 z2 z3 z4
    subst hb
    exact k H1 w1 R1 st1
  · rename_i hb
    rw [if_neg hb]
    exact ⟨w1, rs, s2, d, s', R1, bnd_some.mpr ⟨_, _, e6, e00⟩, fun H' w' R' st => k H' w' R' (st1.trans st)⟩
theorem d_tnot {m : M D} {e : Expr} (h : PT X e (tNot (tBo c (trM m)))) : PT X e (tBo c (trM (bnd m fun x => bnd (ofO x.tr) fun b => ret (.bl !b)))) := pimpT h fun σ H Q ⟨w, rs, s, d, s', R, e, k⟩ => by
  obtain ⟨d0, s0, e0, e00⟩ := bnd_some.mp e
  obtain ⟨d1, s1, e1, e5⟩ := bnd_some.mp e0
  obtain ⟨b, s2, e2, e6⟩ := bnd_some.mp e5
  cases ret_some.mp e6
  obtain ⟨b'', e3', e4'⟩ := ofO_some.mp e00
  simp only [D.tr] at e3'
  cases e3'
  injection e4' with z3 z4
  subst z3 z4
  exact ⟨w, rs, s, b, _, R, bnd_some.mpr ⟨d1, s1, e1, e2⟩, fun H1 w1 R1 st1 => k H1 w1 R1 st1⟩
theorem d_ife {m ma mb : M D} {e : Expr} (h : PE X e (tIf (tBo c (trM m)) (tE c ma) (tE c mb))) : PE X e (tE c (bnd m fun x => bnd (ofO x.tr) fun b' => if b' then ma else mb)) := pimp h fun σ H Q ⟨w, rs, s, d, s', R, e, k⟩ => by
  obtain ⟨d1, s1, e1, e5⟩ := bnd_some.mp e
  obtain ⟨b, s2, e2, e6⟩ := bnd_some.mp e5
  refine ⟨w, rs, s, b, s2, R, bnd_some.mpr ⟨d1, s1, e1, e2⟩, fun H1 w1 R1 st1 => ?_⟩
  split at e6
  · rename_i hb
    rw [if_pos hb]
    exact ⟨w1, rs, s2, d, s', R1, e6, fun v H' w' R' q st => k v H' w' R' q (st1.trans st)⟩
  · rename_i hb
    rw [if_neg hb]
    exact ⟨w1, rs, s2, d, s', R1, e6, fun v H' w' R' q st => k v H' w' R' q (st1.trans st)⟩
/-- a op b op' c -/
theorem i_chain {m1 m2 m3 : M D} {f f' : D → D → Option D} {r r' : R2} (hr : Op2 c (Is c) (Is c) f r) (hr' : Op2 c (Is c) (Is c) f' r') :
    ∀ σ H Q, tE c (bnd m1 fun x => bnd m2 fun y => bnd (ofO (f x y)) fun r => bnd (ofO r.tr) fun b => if b then bnd m3 fun z => ofO (f' y z) else ret r) σ H Q → tChain r r' (tE c m1) (tE c m2) (tE c m3) σ H Q := fun σ H Q ⟨w, rs, s, d, s', R, e, k⟩ => by
  obtain ⟨d1, s1, e1, e5⟩ := bnd_some.mp e
  obtain ⟨d2, s2, e2, e6⟩ := bnd_some.mp e5
  obtain ⟨d3, s3, e3, e7⟩ := bnd_some.mp e6
  obtain ⟨b, s4, e4, e8⟩ := bnd_some.mp e7
  obtain ⟨z, ez, ez'⟩ := ofO_some.mp e3
  injection ez' with z1 z2; subst z1 z2
  obtain ⟨z, ey, ey'⟩ := ofO_some.mp e4
  injection ey' with z1 z2; subst z1 z2
  refine ⟨w, rs, s, d1, s1, R, e1, fun v1 H1 w1 R1 q1 st1 => ?_⟩
  refine ⟨w1, rs, s1, d2, s4, R1, e2, fun v2 H2 w2 R2 q2 st2 => ?_⟩
  refine hr w2 H2 v1 v2 d1 d2 _ _ (q1.step st2) q2 ez fun v H3 w3 hx q => ?_
  have st3 : Step w2 H2 w3 H3 := fun a o e _ => hx a o e
  cases d3 <;> simp only [D.tr] at ey <;> try cases ey
  cases q
  refine ⟨_, rfl, ?_⟩
  split at e8
  · rename_i hb
    rw [if_pos hb]
    obtain ⟨d5, s5, e9, e10⟩ := bnd_some.mp e8
    obtain ⟨z, ew, ew'⟩ := ofO_some.mp e10
    injection ew' with z1 z2; subst z1 z2
    refine ⟨w3, rs, s4, d5, s', R2.ext hx, e9, fun v5 H5 w5 R5 q5 st5 => ?_⟩
    refine hr' w5 H5 v2 v5 d2 d5 _ Q ((q2.step st3).step st5) q5 ew fun v6 H6 w6 hx6 q6 => ?_
    have st6 : Step w5 H5 w6 H6 := fun a o e _ => hx6 a o e
    exact k v6 H6 w6 (R5.ext hx6) q6 ((((st1.trans st2).trans st3).trans st5).trans st6)
  · rename_i hb
    rw [if_neg hb]
    cases ret_some.mp e8
    rw [Bool.not_eq_true] at hb
    subst hb
    exact k _ H3 w3 (R2.ext hx) (.bl _) ((st1.trans st2).trans st3)
/-- a test by what the value is -/
theorem i_tr {m : M D} : ∀ σ H Q, tBo c (trM m) σ H Q → tE c m σ H (fun x H' => ∃ k, x = .bl k ∧ Q k H') := fun σ H Q ⟨w, rs, s, d, s', R, e, k⟩ => by
  obtain ⟨d1, s1, e1, e⟩ := bnd_some.mp e
  obtain ⟨b, e2, e⟩ := ofO_some.mp e
  cases e
  refine ⟨w, rs, s, d1, _, R, e1, fun v1 H1 w1 R1 q1 st1 => ?_⟩
  cases d1 <;> simp only [D.tr] at e2 <;> try cases e2
  cases q1
  exact ⟨_, rfl, k H1 w1 R1 st1⟩
theorem pimpW {e : Expr} {t t' : TT} (h : PW X e t) (k : ∀ σ H Q, t' σ H Q → t σ H Q) : PW X e t' := ⟨fun wh pins s σ H Q I q => h.run wh pins s σ H Q I (k σ H Q q)⟩
end
end Dm

/-! The D machine: operations by values. -/
namespace Dm
open PySem L2 PyProof.Rows
section
variable {X : Cx} {c : Cc} {e : Expr} {es : List Expr}
abbrev Same2 (w : Wm) (H : Hp) (w' : Wm) (H' : Hp) : Prop := ∀ a o, H a = some o → H' a = some o ∧ w' a = w a
theorem Same2.refl (w : Wm) (H : Hp) : Same2 w H w H := fun _ _ h => ⟨h, rfl⟩
theorem Same2.new {w : Wm} {H : Hp} {p : Addr} {o : HO} (hp : H p = none) : Same2 w H (wnew w p) (upd H p o) := fun a u h => by
  have ne : a ≠ p := ne_of_none h hp
  exact ⟨by rw [upd_ne ne]; exact h, by unfold wnew; rw [if_neg ne]⟩
theorem IsAll.repl {w : Wm} {H : Hp} {vs : List V} {ds : List D} (r : IsAll c w H vs ds) : ∀ n, IsAll c w H (List.replicate n vs).flatten (List.replicate n ds).flatten
  | 0 => .nil
  | n + 1 => by rw [List.replicate_succ, List.replicate_succ, List.flatten_cons, List.flatten_cons]; exact r.append (IsAll.repl r n)
def rBin (op : Operator) : R2 :=
  match op with
  | .Add => fun x y H Q => (rI0 fun i j => .int (i + j)) x y H Q ∨ rCat x y H Q
  | .Sub => rI0 fun i j => .int (i - j)
  | .Mult => fun x y H Q => (rI CMul fun i j => .int (i * j)) x y H Q ∨ rRep x y H Q
  | .FloorDiv => rI CDiv fun i j => .int (i / j)
  | .Mod => rI (fun _ j => 0 < j) fun i j => .int (i % j)
  | .Pow => rI CPow fun i j => .int (i ^ j.toNat)
  | _ => fun _ _ _ _ => False
theorem opr_bin (op : Operator) : OpR X (binaryOp op) (rBin op) := by
  cases op <;> first
    | exact OpR.or op_add op_cat
    | exact op_sub
    | exact OpR.or op_mul op_rep
    | exact op_fdiv
    | exact op_mod
    | exact op_pow
    | exact fun _ _ _ _ _ _ _ _ _ _ _ _ h => h.elim
theorem op2_bin (op : Operator) : Op2 c (Is c) (Is c) (binD op) (rBin op) := by
  intro w H x y d1 d2 d Q h1 h2 e k
  unfold binD at e
  split at e
  · cases e; cases h1; cases h2
    exact .inl ⟨_, _, rfl, rfl, k _ H w (Same2.refl _ _) (.int _)⟩
  · cases e; cases h1; cases h2
    exact ⟨_, _, rfl, rfl, k _ H w (Same2.refl _ _) (.int _)⟩
  · split at e
    · rename_i hc
      cases e; cases h1; cases h2
      exact .inl ⟨_, _, rfl, rfl, hc, k _ H w (Same2.refl _ _) (.int _)⟩
    · cases e
  · split at e
    · rename_i hc
      cases e; cases h1; cases h2
      exact ⟨_, _, rfl, rfl, hc, k _ H w (Same2.refl _ _) (.int _)⟩
    · cases e
  · split at e
    · rename_i hc
      cases e; cases h1; cases h2
      exact ⟨_, _, rfl, rfl, hc, k _ H w (Same2.refl _ _) (.int _)⟩
    · cases e
  · split at e
    · rename_i hc
      cases e; cases h1; cases h2
      exact ⟨_, _, rfl, rfl, hc, k _ H w (Same2.refl _ _) (.int _)⟩
    · cases e
  · split at e
    · rename_i hc
      cases e
      cases h1 with
      | lst h1 r1 =>
        cases h2 with
        | lst h2 r2 => exact .inr ⟨_, _, _, _, rfl, rfl, h1.2, h2.2, by rw [r1.length, r2.length]; exact hc, fun p hp => k _ _ _ (Same2.new hp) (Is.newL (r1.append r2) hp)⟩
    · cases e
  · split at e
    · rename_i hc
      cases e
      cases h1 with
      | lst h1 r1 =>
        cases h2
        exact .inr ⟨_, _, _, rfl, rfl, h1.2, hc.1, hc.2.1, by rw [r1.length]; exact hc.2.2, fun p hp => k _ _ _ (Same2.new hp) (Is.newL (r1.repl _) hp)⟩
    · cases e
  · cases e
def rUn (op : UnaryOp) : V → Hp → VK → Prop :=
  match op with
  | .USub => rU fun i => .int (-i)
  | _ => fun _ _ _ => False
theorem opr_un (op : UnaryOp) : UnR X (unaryOp op) (rUn op) := by
  cases op <;> first
    | exact un_neg
    | exact fun _ _ _ _ _ _ _ _ _ h => h.elim
theorem op1_un (op : UnaryOp) : Op1 c (Is c) (unD op) (rUn op) := by
  intro w H x d1 d Q h1 e k
  unfold unD at e
  split at e
  · cases e; cases h1
    exact ⟨_, rfl, k _ H w (Same2.refl _ _) (.int _)⟩
  · cases e
/-! comparisons -/
def rIsB' (neg : Bool) : R2 := fun x y H Q => ∃ b : Bool, y = .bl b ∧ Q (.bl (if neg then !decide (x = .bl b) else decide (x = .bl b))) H
theorem RelV.bool_iff {x : V} {v : Value} {b : Bool} (r : RelV x v) : v = .bool b ↔ x = .bl b := by
  constructor
  · intro h
    subst h
    exact RelV.inj r (show RelV (.bl b) (.bool b) from rfl)
  · intro h
    subst h
    exact r
theorem opr_is : OpR X (compareOp .Is) (rIsB' false) := by
  intro pins s σ H x y v u Q I rx ry h
  obtain ⟨b, rfl, q⟩ := h
  cases (show u = Value.bool b from ry)
  have q : Q (.bl (decide (x = .bl b))) H := q
  by_cases e : v = .bool b
  · subst e
    have e2 := (RelV.bool_iff rx).mp rfl
    exact wpAny_is_self rfl ⟨.bl true, H, I, rfl, by simpa [e2] using q⟩
  · have e2 : x ≠ .bl b := fun z => e ((RelV.bool_iff rx).mpr z)
    refine wpAny_is_other ?_ e ⟨.bl false, H, I, rfl, by simpa [e2] using q⟩
    cases v <;> first | rfl | (cases x <;> simp [L2.RelV] at rx)
theorem opr_isnot : OpR X (compareOp .IsNot) (rIsB' true) := by
  intro pins s σ H x y v u Q I rx ry h
  obtain ⟨b, rfl, q⟩ := h
  cases (show u = Value.bool b from ry)
  have q : Q (.bl (!decide (x = .bl b))) H := q
  by_cases e : v = .bool b
  · subst e
    have e2 := (RelV.bool_iff rx).mp rfl
    exact wpAny_isNot_self rfl ⟨.bl false, H, I, rfl, by simpa [e2] using q⟩
  · have e2 : x ≠ .bl b := fun z => e ((RelV.bool_iff rx).mpr z)
    refine wpAny_isNot_other ?_ e ⟨.bl true, H, I, rfl, by simpa [e2] using q⟩
    cases v <;> first | rfl | (cases x <;> simp [L2.RelV] at rx)
def rCmp (K : PySem.W.Frag) (op : CmpOp) : R2 :=
  match op with
  | .Eq => rEqD K
  | .NotEq => rNeD K
  | .Lt => rI0 fun i j => .bl (decide (i < j))
  | .LtE => rI0 fun i j => .bl (decide (i ≤ j))
  | .Gt => rI0 fun i j => .bl (decide (j < i))
  | .GtE => rI0 fun i j => .bl (decide (j ≤ i))
  | .Is => fun x y H Q => (y = .non ∧ Q (.bl (decide (x = .non))) H) ∨ rIsB' false x y H Q
  | .IsNot => fun x y H Q => (y = .non ∧ Q (.bl (!decide (x = .non))) H) ∨ rIsB' true x y H Q
  | .In => rInD K
  | .NotIn => rNotInD K
theorem opr_cmp (hu : X.A.units + 65 < cLine) (op : CmpOp) : OpR X (compareOp op) (rCmp X.K op) := by
  cases op with
  | Eq => exact op_eqD (by omega)
  | NotEq => exact op_neD (by omega)
  | Lt => exact op_lt
  | LtE => exact op_le
  | Gt => exact op_gt
  | GtE => exact op_ge
  | Is => exact OpR.or op_isN opr_is
  | IsNot => exact OpR.or op_notN opr_isnot
  | In => exact op_inD hu
  | NotIn => exact op_notInD hu
/-- what data is None, or a bool -/
theorem Is.non_iff {w : Wm} {H : Hp} {v : V} {d : D} (h : Is c w H v d) : v = .non ↔ d = .non := by
  cases h <;> simp
theorem Is.bl_iff {w : Wm} {H : Hp} {v : V} {d : D} {b : Bool} (h : Is c w H v d) : v = .bl b ↔ d = .bl b := by
  cases h <;> simp
theorem shaped2 {a b : D} {r : Bool} (h : eqD a b = some r) : SeqAt.shaped a.py = true ∧ SeqAt.shaped b.py = true ∧ r = PyData.eqv a.py b.py := by
  unfold eqD at h
  split at h
  · rename_i z
    rw [Bool.and_eq_true] at z
    cases h
    exact ⟨z.1, z.2, rfl⟩
  · cases h
theorem any_pys (f : PyData → Bool) : ∀ xs : List D, (D.pys xs).any f = xs.any fun z => f z.py
  | [] => by rw [D.pys]; rfl
  | x :: xs => by rw [D.pys, List.any_cons, List.any_cons, any_pys f xs]
theorem shapedIn {a : D} {xs : List D} {r : Bool} (h : inD a xs = some r) : SeqAt.shaped a.py = true ∧ SeqAt.shaped (.list (D.pys xs)) = true ∧ r = (D.pys xs).any fun z => PyData.eqv z a.py := by
  unfold inD at h
  split at h
  · rename_i z
    rw [Bool.and_eq_true, D.py] at z
    cases h
    exact ⟨z.1, z.2, by rw [any_pys]⟩
  · cases h
theorem cmpI_some {f : Int → Int → Bool} {a b d : D} (h : cmpI f a b = some d) : ∃ i j, a = .int i ∧ b = .int j ∧ d = .bl (f i j) := by
  unfold cmpI at h
  split at h
  · cases h; exact ⟨_, _, rfl, rfl, rfl⟩
  · cases h
theorem isD_some {a b : D} {r : Bool} (h : isD a b = some r) : (b = .non ∧ (r = true ↔ a = .non)) ∨ ∃ x, b = .bl x ∧ (r = true ↔ a = .bl x) := by
  unfold isD at h
  split at h <;> cases h
  · exact .inl ⟨rfl, by simp⟩
  · rename_i z
    exact .inl ⟨rfl, by simpa using z⟩
  · exact .inr ⟨_, rfl, by simp⟩
  · exact .inr ⟨_, rfl, by simp⟩
  · exact .inr ⟨_, rfl, by simp⟩
  · exact .inr ⟨_, rfl, by simp⟩
theorem dec_of {p : Prop} [Decidable p] {r : Bool} (h : r = true ↔ p) : decide p = r := by
  cases r with
  | true => exact decide_eq_true (h.mp rfl)
  | false => exact decide_eq_false fun q => by have := h.mpr q; cases this
theorem op2_cmp {P1 P2 : Wm → Hp → V → D → Prop} (hP1 : ∀ {w H v d}, P1 w H v d → Is c noW H v d) (hP2 : ∀ {w H v d}, P2 w H v d → Is c noW H v d) (op : CmpOp) : Op2 c P1 P2 (cmpD op) (rCmp c.K op) := by
  intro w H x y d1 d2 d Q h1 h2 e k
  have h1 := hP1 h1
  have h2 := hP2 h2
  have kk : ∀ b, d = .bl b → Q (.bl b) H := fun b z => by subst z; exact k _ H w (Same2.refl _ _) (.bl b)
  cases op <;> simp only [cmpD, Option.map_eq_some_iff] at e
  · obtain ⟨r, e1, rfl⟩ := e
    obtain ⟨z1, z2, rfl⟩ := shaped2 e1
    exact ⟨_, _, h1.shaped z1, h2.shaped z2, z1, z2, kk _ rfl⟩
  · obtain ⟨r, e1, rfl⟩ := e
    obtain ⟨z1, z2, rfl⟩ := shaped2 e1
    exact ⟨_, _, h1.shaped z1, h2.shaped z2, z1, z2, kk _ rfl⟩
  · obtain ⟨i, j, rfl, rfl, rfl⟩ := cmpI_some e
    cases h1; cases h2
    exact ⟨_, _, rfl, rfl, kk _ rfl⟩
  · obtain ⟨i, j, rfl, rfl, rfl⟩ := cmpI_some e
    cases h1; cases h2
    exact ⟨_, _, rfl, rfl, kk _ rfl⟩
  · obtain ⟨i, j, rfl, rfl, rfl⟩ := cmpI_some e
    cases h1; cases h2
    exact ⟨_, _, rfl, rfl, kk _ rfl⟩
  · obtain ⟨i, j, rfl, rfl, rfl⟩ := cmpI_some e
    cases h1; cases h2
    exact ⟨_, _, rfl, rfl, kk _ rfl⟩
  · obtain ⟨r, e1, rfl⟩ := e
    rcases isD_some e1 with ⟨rfl, z⟩ | ⟨b, rfl, z⟩
    · cases h2
      refine .inl ⟨rfl, ?_⟩
      rw [dec_of (z.trans h1.non_iff.symm)]
      exact kk _ rfl
    · cases h2
      refine .inr ⟨b, rfl, ?_⟩
      rw [if_neg (by decide), dec_of (z.trans h1.bl_iff.symm)]
      exact kk _ rfl
  · obtain ⟨r, e1, rfl⟩ := e
    rcases isD_some e1 with ⟨rfl, z⟩ | ⟨b, rfl, z⟩
    · cases h2
      refine .inl ⟨rfl, ?_⟩
      rw [dec_of (z.trans h1.non_iff.symm)]
      exact kk _ rfl
    · cases h2
      refine .inr ⟨b, rfl, ?_⟩
      rw [if_pos rfl, dec_of (z.trans h1.bl_iff.symm)]
      exact kk _ rfl
  · split at e
    · rename_i xs
      simp only [Option.map_eq_some_iff] at e
      obtain ⟨r, e1, rfl⟩ := e
      obtain ⟨z1, z2, rfl⟩ := shapedIn e1
      have q := h2.shaped (by rw [D.py]; exact z2)
      rw [D.py] at q
      exact ⟨_, _, h1.shaped z1, q, z1, z2, kk _ rfl⟩
    · cases e
  · split at e
    · rename_i xs
      simp only [Option.map_eq_some_iff] at e
      obtain ⟨r, e1, rfl⟩ := e
      obtain ⟨z1, z2, rfl⟩ := shapedIn e1
      have q := h2.shaped (by rw [D.py]; exact z2)
      rw [D.py] at q
      exact ⟨_, _, h1.shaped z1, q, z1, z2, kk _ rfl⟩
    · cases e
end
end Dm

/-! The D machine: items, fields, built-ins, isinstance. -/
namespace Dm
open PySem L2 PyProof.Rows

/-! ### forms that the mini syntax never has -/
theorem E.star (e : E) (es : List Expr) (env : PySem.Env) : starEach (e.py :: es) env = (false, eval e.py env) :: starEach es env := by
  cases e <;> (rw [E.py]; rfl)
theorem E.plainIx (e : E) : PlainIx e.py := by
  cases e <;> (rw [E.py]; exact fun _ _ => rfl)
theorem E.nomark (e : E) (op : CmpOp) : behindInMarks op e.py = false := by
  cases e <;> (rw [E.py]; rfl)
theorem E.nofold (e : E) (env : PySem.Env) (x : Value) : foldedSetIterable e.py env x = pure x := by
  cases e <;> (rw [E.py]; rfl)
theorem noStar_nil {pos : Pos} {env : PySem.Env} : (backTo pos (starEach [] env)).any (·.1) = false := rfl
theorem noStar_cons {pos : Pos} {env : PySem.Env} {e : E} {es : List Expr} (h : (backTo pos (starEach es env)).any (·.1) = false) : (backTo pos (starEach (e.py :: es) env)).any (·.1) = false := by
  rw [E.star]
  simpa [backTo] using h
theorem Es.noStar {pos : Pos} {env : PySem.Env} : ∀ es : Es, (backTo pos (starEach es.py env)).any (·.1) = false
  | .nil => by rw [Es.py]; rfl
  | .cons e es => by rw [Es.py]; exact noStar_cons (Es.noStar es)
theorem star_name {x : Str} {p : Pos} (es : List Expr) (env : PySem.Env) : starEach (.Name x p :: es) env = (false, eval (.Name x p) env) :: starEach es env := rfl

section
variable {X : Cx} {c : Cc} {e : Expr} {es : List Expr}
/-! ### items -/
theorem atI_get {α : Type} {xs : List α} {i : Int} {v : α} (h : atI xs i = some v) : ∃ j, ixN xs.length i = some j ∧ xs[j]? = some v := by
  unfold atI at h
  obtain ⟨j, e1, e2⟩ := Option.bind_eq_some_iff.mp h
  exact ⟨j, e1, e2⟩
theorem IsAll.at {w : Wm} {H : Hp} {vs : List V} {ds : List D} (r : IsAll c w H vs ds) {i : Int} {d : D} (h : atI ds i = some d) : ∃ v, atI vs i = some v ∧ Is c w H v d := by
  obtain ⟨j, e1, e2⟩ := atI_get h
  obtain ⟨v, e3, q⟩ := r.get e2
  exact ⟨v, by unfold atI; rw [r.length, e1]; exact e3, q⟩
theorem op2_ix : Op2 c (Is c) (Is c) ixD (rIx c.K) := by
  intro w H x y d1 d2 d Q h1 h2 e k
  unfold ixD at e
  split at e
  · cases h2
    cases h1 with
    | lst h1 r =>
      obtain ⟨v, e1, q⟩ := r.at e
      exact .inl ⟨_, _, _, _, rfl, rfl, h1.sq, e1, k _ H w (Same2.refl _ _) q⟩
  · cases h2
    cases h1 with
    | tup h1 r =>
      obtain ⟨v, e1, q⟩ := r.at e
      exact .inr (.inl ⟨_, _, _, _, rfl, rfl, h1.sq, e1, k _ H w (Same2.refl _ _) q⟩)
  · cases h2
    cases h1 with
    | scr h1 =>
      obtain ⟨z, e1, rfl⟩ := Option.map_eq_some_iff.mp e
      obtain ⟨j, e2, e3⟩ := atI_get e1
      exact .inl ⟨_, _, _, .int z, rfl, rfl, h1.sq, by unfold atI; rw [List.length_map, e2]; simp [e3], k _ H w (Same2.refl _ _) (.int _)⟩
  · cases e
theorem d_subB {j : Nat} {m : M D} (h : PE X e (tOp (rIx c.K) (tVar j) (tE c m))) : PE X e (tE c (subB j m)) := pimp h fun σ H Q ⟨w, rs, s, d, s', R, e, k⟩ => by
  obtain ⟨d0, s0, e0, e5⟩ := bnd_some.mp e
  obtain ⟨d2, s2, e2, e6⟩ := bnd_some.mp e5
  obtain ⟨rfl, v, o, kk, hv, _, _, _⟩ := R.peekV e0
  refine ⟨v, hv, w, rs, s0, d2, s2, R, e2, fun v2 H2 w2 R2 q2 st2 => ?_⟩
  split at e6
  · rename_i dl ep
    obtain ⟨v', kk', hv', q1⟩ := R2.peek ep
    rw [hv] at hv'; cases hv'
    obtain ⟨z, ez, ez'⟩ := ofO_some.mp e6
    injection ez' with z1 z2; subst z1 z2
    cases q1 with
    | leaf q1 =>
      refine op2_ix w2 H2 v v2 _ d2 _ Q q1 q2 ez fun v H' w' hx q => ?_
      have st3 : Step w2 H2 w' H' := fun a o e _ => hx a o e
      exact k v H' w' (R2.ext hx) q (st2.trans st3)
  · rename_i ds ep
    obtain ⟨v', kk', hv', q1⟩ := R2.peek ep
    rw [hv] at hv'; cases hv'
    obtain ⟨z, ez, ez'⟩ := ofO_some.mp e6
    injection ez' with z1 z2; subst z1 z2
    cases q1 with
    | fl h1 h2 r =>
      cases q2 <;> simp only [ixD] at ez <;> try cases ez
      obtain ⟨v3, e11, q3⟩ := r.at ez
      exact .inl ⟨_, _, _, _, rfl, rfl, .of h2, e11, k _ H2 w2 R2 q3 st2⟩
  · cases e6

/-! ### fields -/
theorem lookup_zip : ∀ {ns : List Str} {vs : List V} {j : Nat} {f : Str} {v : V}, ns.Nodup → ns[j]? = some f → vs[j]? = some v → (ns.zip vs).lookup f = some v
  | [], _, _, _, _, _, h, _ => by simp at h
  | _ :: _, [], _, _, _, _, _, h => by simp at h
  | n :: ns, u :: vs, 0, f, v, _, h1, h2 => by
    simp at h1 h2
    subst h1 h2
    simp [List.zip_cons_cons, List.lookup_cons]
  | n :: ns, u :: vs, j + 1, f, v, nd, h1, h2 => by
    simp only [List.getElem?_cons_succ] at h1 h2
    rw [List.nodup_cons] at nd
    have ne : f ≠ n := fun z => nd.1 (z ▸ List.mem_of_getElem? h1)
    rw [List.zip_cons_cons, List.lookup_cons]
    have : (f == n) = false := by simpa using ne
    rw [this]
    exact lookup_zip nd.2 h1 h2
/-- what is known of a class -/
structure ClsOk (c : Cc) (k : Nat) : Prop where
  cls : Cls c.K (c.cl k)
  nd : (c.fn k).Nodup
  no : ∀ f ∈ c.fn k, NoAttr c.K (c.cl k) f
theorem att_ok {fn : Nat → List Str} (hf : c.fn = fn) (hc : ∀ q, fn q ≠ [] → ClsOk c q) {w : Wm} {H : Hp} {kk : List Nat → Ow} {v : V} {o : OD} {k : Nat} {f : Str} {d : D} {Q : VK} (h : IsO c w H kk v o) (e : attO fn k f o = some d)
    (q : ∀ u, Is c w H u d → Q u H) : ∃ a C dx fs u, v = .ref a ∧ H a = some (.ins C dx fs) ∧ Cls c.K C ∧ NoAttr c.K C f ∧ fs.lookup f = some u ∧ Q u H := by
  subst hf
  have main : ∀ {a dx : Addr} {vs : List V} {ds : List D} {n : Nat}, H a = some (.ins (c.cl n) dx ((c.fn n).zip vs)) → IsAll c w H vs ds → v = .ref a → (if (c.fn n)[k]? = some f then ds[k]? else none) = some d →
      ∃ a C dx fs u, v = .ref a ∧ H a = some (.ins C dx fs) ∧ Cls c.K C ∧ NoAttr c.K C f ∧ fs.lookup f = some u ∧ Q u H := by
    intro a dx vs ds n h1 r hv e
    split at e
    · rename_i hn
      have ne : c.fn n ≠ [] := fun z => by rw [z] at hn; simp at hn
      obtain ⟨u, e1, z⟩ := r.get e
      exact ⟨a, _, dx, _, u, hv, h1, (hc n ne).cls, (hc n ne).no f (List.mem_of_getElem? hn), lookup_zip (hc n ne).nd hn e1, q u z⟩
    · cases e
  cases h with
  | leaf h =>
    cases h <;> simp only [attO] at e <;> try cases e
    rename_i h1 h2 h3 r
    exact main h2 r rfl e
  | fl => simp only [attO] at e; cases e
  | ll => simp only [attO] at e; cases e
  | oobj h1 h2 h3 r => exact main h2 r rfl e
theorem d_att {fn : Nat → List Str} (hf : c.fn = fn) (hc : ∀ q, fn q ≠ [] → ClsOk c q) {m : M D} {k : Nat} {f : Str} (h : PE X e (tFld c.K (tE c m) f)) : PE X e (tE c (bnd m fun x => ofO (attO fn k f (.leaf x)))) := pimp h fun σ H Q ⟨w, rs, s, d, s', R, e, kq⟩ => by
  obtain ⟨d1, s1, e1, e5⟩ := bnd_some.mp e
  obtain ⟨z, ez, ez'⟩ := ofO_some.mp e5
  injection ez' with z1 z2; subst z1 z2
  exact ⟨w, rs, s, d1, _, R, e1, fun v1 H1 w1 R1 q1 st1 => att_ok (kk := sow 0) hf hc (.leaf q1) ez fun u q => kq u H1 w1 R1 q st1⟩
theorem d_attB {fn : Nat → List Str} (hf : c.fn = fn) (hc : ∀ q, fn q ≠ [] → ClsOk c q) {j k : Nat} {f : Str} (h : PE X e (tFld c.K (tVar j) f)) : PE X e (tE c (fun s => match peekO s j with
      | some o => ofO (attO fn k f o) s
      | none => none)) := pimp h fun σ H Q ⟨w, rs, s, d, s', R, e, kq⟩ => by
  simp only at e
  split at e
  · rename_i o eo
    obtain ⟨z, ez, ez'⟩ := ofO_some.mp e
    injection ez' with z1 z2; subst z1 z2
    obtain ⟨v, kk, hv, q⟩ := R.peek eo
    exact ⟨v, hv, att_ok hf hc q ez fun u q => kq u H w R q (Step.refl _ _)⟩
  · cases e

/-! ### built-ins -/
theorem d_cb1 {P1 : Wm → Hp → V → D → Prop} {m : M D} {f : D → Option D} {r : List V → Hp → VK → Prop} (h : PE X e (tCB r (tCons (tM c P1 m) tNil))) (hr : Op1 c P1 f (fun x H Q => r [x] H Q)) :
    PE X e (tE c (bnd m fun x => ofO (f x))) := d_one (r := fun x H Q => r [x] H Q) (pimp h fun _ _ _ q => q) hr
theorem d_cb2 {m m' : M D} {f : D → D → Option D} {r : List V → Hp → VK → Prop} (h : PE X e (tCB r (tCons (tE c m) (tCons (tE c m') tNil)))) (hr : Op2 c (Is c) (Is c) f (fun x y H Q => r [x, y] H Q)) :
    PE X e (tE c (bnd m fun x => bnd m' fun y => ofO (f x y))) := d_two (r := fun x y H Q => r [x, y] H Q) (pimp h fun _ _ _ q => q) hr
theorem allBl_some : ∀ {ds : List D} {bs : List Bool}, allBl ds = some bs → ds = bs.map D.bl
  | [], bs, h => by simp [allBl] at h; subst h; rfl
  | .bl b :: r, bs, h => by
    simp only [allBl, Option.map_eq_some_iff] at h
    obtain ⟨x, e, rfl⟩ := h
    rw [allBl_some e]; rfl
  | .non :: _, _, h | .int _ :: _, _, h | .str _ :: _, _, h | .tup _ :: _, _, h | .lst _ :: _, _, h | .obj _ _ :: _, _, h | .scr _ :: _, _, h => by simp [allBl] at h
theorem allI_some : ∀ {ds : List D} {bs : List Int}, allI ds = some bs → ds = bs.map D.int
  | [], bs, h => by simp [allI] at h; subst h; rfl
  | .int b :: r, bs, h => by
    simp only [allI, Option.map_eq_some_iff] at h
    obtain ⟨x, e, rfl⟩ := h
    rw [allI_some e]; rfl
  | .non :: _, _, h | .bl _ :: _, _, h | .str _ :: _, _, h | .tup _ :: _, _, h | .lst _ :: _, _, h | .obj _ _ :: _, _, h | .scr _ :: _, _, h => by simp [allI] at h
theorem IsAll.bls {w : Wm} {H : Hp} : ∀ {vs : List V} {bs : List Bool}, IsAll c w H vs (bs.map D.bl) → vs = bs.map V.bl
  | _, [], h => by cases h; rfl
  | _, b :: bs, h => by
    cases h with
    | cons h r => cases h; rw [IsAll.bls r]; rfl
theorem IsAll.ints {w : Wm} {H : Hp} : ∀ {vs : List V} {bs : List Int}, IsAll c w H vs (bs.map D.int) → vs = bs.map V.int
  | _, [], h => by cases h; rfl
  | _, b :: bs, h => by
    cases h with
    | cons h r => cases h; rw [IsAll.ints r]; rfl
theorem maxI_ge : ∀ {ns : List Int} {x : Int}, x ∈ ns → x ≤ maxI ns
  | [], _, h => by simp at h
  | [a], x, h => by simp at h; subst h; exact Int.le_refl _
  | a :: b :: r, x, h => by
    rw [maxI]
    rcases List.mem_cons.mp h with e | h
    · subst e; omega
    · have := maxI_ge h; omega
    · intro z; cases z
theorem maxI_mem : ∀ {ns : List Int}, ns ≠ [] → maxI ns ∈ ns
  | [], h => absurd rfl h
  | [a], _ => by simp [maxI]
  | a :: b :: r, _ => by
    have e : maxI (a :: b :: r) = max a (maxI (b :: r)) := by
      rw [maxI]
      intro z; cases z
    rw [e]
    have := maxI_mem (ns := b :: r) (by simp)
    rcases Int.le_total a (maxI (b :: r)) with h | h
    · rw [Int.max_eq_right h]; exact List.mem_cons_of_mem _ this
    · rw [Int.max_eq_left h]; exact List.mem_cons_self
def rB1 (K : PySem.W.Frag) (b : Bi) : List V → Hp → VK → Prop :=
  match b with
  | .len => fun xs H Q => ∃ x n, xs = [x] ∧ LenV K x H n ∧ Q (.int n) H
  | .abs => fun xs H Q => ∃ i, xs = [.int i] ∧ Q (.int (if i < 0 then -i else i)) H
  | .int => fun xs H Q => (∃ i, xs = [.int i] ∧ Q (.int i) H) ∨ ∃ k, xs = [.bl k] ∧ Q (.int (if k then 1 else 0)) H
  | .all => rAll K
  | .any => rAny K
  | .sum => rSum K
  | .maxL => rMax K
  | .tuple => fun xs H Q => ∃ p ys, xs = [.ref p] ∧ ((SqL K H p ys ∧ ∀ l, H l = none → Q (.ref l) (upd H l (.tup ys))) ∨ (SqT K H p ys ∧ Q (.ref p) H))
  | .list => fun xs H Q => ∃ p ys, xs = [.ref p] ∧ (SqL K H p ys ∨ SqT K H p ys) ∧ ∀ l, H l = none → Q (.ref l) (upd H l (.lst ys))
  | _ => fun _ _ _ => False
theorem op1_b1 (b : Bi) : Op1 c (Rd0 c) (bi1D b) (fun x H Q => rB1 c.K b [x] H Q) := by
  intro w H x d1 d Q h1 e k
  have kk : ∀ v, d = v → Is c w H (match v with | .int i => .int i | .bl b => .bl b | _ => .non) v → Q (match v with | .int i => .int i | .bl b => .bl b | _ => .non) H := fun v z q => by subst z; exact k _ H w (Same2.refl _ _) q
  unfold bi1D at e
  split at e
  · cases e
    cases h1 with
    | lst h r => exact ⟨_, _, rfl, .inl ⟨_, h.sq, by rw [r.length]⟩, kk _ rfl (.int _)⟩
  · cases e
    cases h1 with
    | tup h r => exact ⟨_, _, rfl, .inr ⟨_, h.sq, by rw [r.length]⟩, kk _ rfl (.int _)⟩
  · cases e
    cases h1 with
    | scr h => exact ⟨_, _, rfl, .inl ⟨_, h.sq, by rw [List.length_map]⟩, kk _ rfl (.int _)⟩
  · cases e; cases h1
    exact ⟨_, rfl, kk _ rfl (.int _)⟩
  · cases e; cases h1
    exact .inl ⟨_, rfl, kk _ rfl (.int _)⟩
  · cases e; cases h1
    exact .inr ⟨_, rfl, kk _ rfl (.int _)⟩
  · obtain ⟨bs, e1, rfl⟩ := Option.map_eq_some_iff.mp e
    have e2 := allBl_some e1
    subst e2
    cases h1 with
    | lst h r =>
      have := r.bls
      subst this
      exact ⟨_, _, rfl, h.sq, kk _ rfl (.bl _)⟩
  · obtain ⟨bs, e1, rfl⟩ := Option.map_eq_some_iff.mp e
    have e2 := allBl_some e1
    subst e2
    cases h1 with
    | lst h r =>
      have := r.bls
      subst this
      exact ⟨_, _, rfl, h.sq, kk _ rfl (.bl _)⟩
  · obtain ⟨bs, e1, rfl⟩ := Option.map_eq_some_iff.mp e
    have e2 := allI_some e1
    subst e2
    cases h1 with
    | lst h r =>
      have := r.ints
      subst this
      exact ⟨_, _, rfl, h.sq, kk _ rfl (.int _)⟩
  · obtain ⟨bs, e1, rfl⟩ := Option.map_eq_some_iff.mp e
    have e2 := allI_some e1
    cases h1 with
    | lst h r =>
      rw [e2] at r
      have := r.ints
      subst this
      have ne : bs ≠ [] := fun z => by subst z; simp at e2
      refine ⟨_, _, rfl, h.sq, List.length_pos_iff.mpr ne, fun m hm hy => ?_⟩
      have : m = maxI bs := Int.le_antisymm (maxI_ge hm) (hy _ (maxI_mem ne))
      subst this
      exact kk _ rfl (.int _)
  · cases e
theorem op1_conv (b : Bi) : Op1 c (Is c) (convD b) (fun x H Q => rB1 c.K b [x] H Q) := by
  intro w H x d1 d Q h1 e k
  unfold convD at e
  split at e <;> cases e
  · cases h1 with
    | lst h r => exact ⟨_, _, rfl, .inl ⟨h.sq, fun p hp => k _ _ _ (Same2.new hp) (Is.newT r hp)⟩⟩
  · cases h1 with
    | tup h r => exact ⟨_, _, rfl, .inr ⟨h.sq, k _ H w (Same2.refl _ _) (.tup h r)⟩⟩
  · cases h1 with
    | lst h r => exact ⟨_, _, rfl, .inl h.sq, fun p hp => k _ _ _ (Same2.new hp) (Is.newL r hp)⟩
  · cases h1 with
    | tup h r => exact ⟨_, _, rfl, .inr h.sq, fun p hp => k _ _ _ (Same2.new hp) (Is.newL r hp)⟩
def rB2 (b : Bi) : List V → Hp → VK → Prop :=
  match b with
  | .max2 => fun xs H Q => ∃ i j, xs = [.int i, .int j] ∧ Q (.int (if j > i then j else i)) H
  | .min2 => fun xs H Q => ∃ i j, xs = [.int i, .int j] ∧ Q (.int (if j < i then j else i)) H
  | .divmod => fun xs H Q => ∃ i j, xs = [.int i, .int j] ∧ CDiv i j ∧ ∀ p, H p = none → Q (.ref p) (upd H p (.tup [.int (i / j), .int (i % j)]))
  | _ => fun _ _ _ => False
theorem op2_b2 (b : Bi) : Op2 c (Is c) (Is c) (bi2D b) (fun x y H Q => rB2 b [x, y] H Q) := by
  intro w H x y d1 d2 d Q h1 h2 e k
  unfold bi2D at e
  split at e
  · cases e; cases h1; cases h2
    exact ⟨_, _, rfl, k _ H w (Same2.refl _ _) (.int _)⟩
  · cases e; cases h1; cases h2
    exact ⟨_, _, rfl, k _ H w (Same2.refl _ _) (.int _)⟩
  · split at e
    · rename_i hc
      cases e; cases h1; cases h2
      exact ⟨_, _, rfl, hc, fun p hp => k _ _ _ (Same2.new hp) (Is.newT (.cons (.int _) (.cons (.int _) .nil)) hp)⟩
    · cases e
  · cases e
theorem pe_b1 (hc : X.calm = true) (hK : X.K = c.K) {b : Bi} {p q : Pos} {a : E} {t : TE} (hb : b ≠ .max2 ∧ b ≠ .min2 ∧ b ≠ .divmod) (hg : Gl X b.nm) (hm : X.mg b.nm = none) (ha : PE X a.py t) : PE X (.Call (.Name b.nm p) [a.py] [] q) (tCB (rB1 c.K b) (tCons t tNil)) := by
  have pa : PA X [a.py] (tCons t tNil) := pa_cons ha pa_nil (a.star _ _)
  rw [← hK]
  cases b with
  | len => exact pe_callB call_len hg hm (by decide +kernel) pa (he := a.star _ _)
  | abs => exact pe_callB call_abs hg hm (by decide +kernel) pa (he := a.star _ _)
  | int => exact pe_callTy call_int1 hg hm (by decide +kernel) pa (he := a.star _ _)
  | all => exact pe_callB (cr_all hc) hg hm (by decide +kernel) pa (he := a.star _ _)
  | any => exact pe_callB (cr_any hc) hg hm (by decide +kernel) pa (he := a.star _ _)
  | sum => exact pe_callB (cr_sum hc) hg hm (by decide +kernel) pa (he := a.star _ _)
  | maxL => exact pe_callB (cr_max hc) hg hm (by decide +kernel) pa (he := a.star _ _)
  | tuple => exact pe_callTy call_tuple_of hg hm (by decide +kernel) pa (he := a.star _ _)
  | list => exact pe_callTy call_list_of hg hm (by decide +kernel) pa (he := a.star _ _)
  | max2 => exact absurd rfl hb.1
  | min2 => exact absurd rfl hb.2.1
  | divmod => exact absurd rfl hb.2.2
theorem pe_b2 (hc : X.calm = true) {b : Bi} {p q : Pos} {a a' : E} {t t' : TE} (hb : b = .max2 ∨ b = .min2 ∨ b = .divmod) (hg : Gl X b.nm) (hm : X.mg b.nm = none) (ha : PE X a.py t) (ha' : PE X a'.py t') : PE X (.Call (.Name b.nm p) [a.py, a'.py] [] q) (tCB (rB2 b) (tCons t (tCons t' tNil))) := by
  have pa : PA X [a.py, a'.py] (tCons t (tCons t' tNil)) := pa_cons ha (pa_cons ha' pa_nil (a'.star _ _)) (a.star _ _)
  rcases hb with rfl | rfl | rfl
  · exact pe_callB (call_max2 hc) hg hm (by decide +kernel) pa (he := a.star _ _) (hpl := noStar_cons noStar_nil)
  · exact pe_callB (call_min2 hc) hg hm (by decide +kernel) pa (he := a.star _ _) (hpl := noStar_cons noStar_nil)
  · exact pe_callB call_divmod hg hm (by decide +kernel) pa (he := a.star _ _) (hpl := noStar_cons noStar_nil)
/-! ### isinstance -/
def Ty.name : Ty → String
  | .int => "int" | .bool => "bool" | .str => "str" | .list => "list" | .tuple => "tuple"
theorem op1_isi (t : Ty) : Op1 c (Rd0 c) (fun d => (isiD d t).map .bl) (fun x H Q => rIsi c.K [x, .ty t.name] H Q) := by
  intro w H x d1 d Q h1 e k
  obtain ⟨b, e1, rfl⟩ := Option.map_eq_some_iff.mp e
  have main : ∀ {n : String}, TyOf c.K H x (.type n) → kitB n t.name = some b → rIsi c.K [x, .ty t.name] H Q := fun {n} h1 h2 =>
    ⟨x, .ty t.name, .type n, .type t.name, b, rfl, .ty _, .base h1, kit_ty h2, k _ H w (Same2.refl _ _) (.bl b)⟩
  cases h1 with
  | non => refine main .non ?_; cases t <;> simp only [isiD] at e1 <;> cases e1 <;> decide +kernel
  | bl z => refine main (.bl z) ?_; cases t <;> simp only [isiD] at e1 <;> cases e1 <;> decide +kernel
  | int z => refine main (.int z) ?_; cases t <;> simp only [isiD] at e1 <;> cases e1 <;> decide +kernel
  | str z => refine main (.str z) ?_; cases t <;> simp only [isiD] at e1 <;> cases e1 <;> decide +kernel
  | lst h r => refine main (.lst h.2) ?_; cases t <;> simp only [isiD] at e1 <;> cases e1 <;> decide +kernel
  | tup h r => refine main (.tup h.2) ?_; cases t <;> simp only [isiD] at e1 <;> cases e1 <;> decide +kernel
  | obj => simp only [isiD] at e1; cases e1
  | scr => simp only [isiD] at e1; cases e1
theorem d_isi {m : M D} {t : Ty} (h : PE X e (tCB (rIsi c.K) (tCons (tR c m) (tCons (tC (.ty t.name)) tNil)))) : PE X e (tE c (bnd m fun x => ofO ((isiD x t).map .bl))) :=
  d_one (f := fun d => (isiD d t).map .bl) (r := fun x H Q => rIsi c.K [x, .ty t.name] H Q) (pimp h fun _ _ _ q => q) (op1_isi t)
theorem pe_isi (hK : X.K = c.K) {t : Ty} {a : E} {p1 p2 p3 : Pos} {ta : TE} (hg : Gl X "isinstance") (hm : X.mg "isinstance" = none) (hg2 : Gl X t.nm) (hm2 : X.mg t.nm = none) (ha : PE X a.py ta) :
    PE X (.Call (.Name "isinstance" p1) [a.py, .Name t.nm p2] [] p3) (tCB (rIsi c.K) (tCons ta (tCons (tC (.ty t.name)) tNil))) := by
  rw [← hK]
  refine pe_callB call_isi hg hm (by decide +kernel) (pa_cons ha (pa_cons (pe_bltn hg2 hm2 (u := .type t.name) ?_ rfl ?_ ?_) pa_nil) (a.star _ _)) (he := a.star _ _)
  all_goals cases t <;> decide +kernel
end
end Dm

/-! The D machine: targets, what is walked, comprehensions, calls. -/
namespace Dm
open PySem L2 PyProof.Rows

/-! ### targets -/
def Tgs.len : Tgs → Nat
  | .nil => 0
  | .cons _ ts => ts.len + 1
/-- but for these slots -/
def AgreeBut (ids : List Nat) (σ σ' : L2.St) : Prop := σ'.length = σ.length ∧ ∀ i, i ∉ ids → σ'[i]? = σ[i]?
theorem AgreeBut.refl (ids : List Nat) (σ : L2.St) : AgreeBut ids σ σ := ⟨rfl, fun _ _ => rfl⟩
theorem AgreeBut.trans {a b : List Nat} {σ σ1 σ2 : L2.St} (h : AgreeBut a σ σ1) (k : AgreeBut b σ1 σ2) : AgreeBut (a ++ b) σ σ2 :=
  ⟨k.1.trans h.1, fun i hi => by rw [List.mem_append, not_or] at hi; exact (k.2 i hi.2).trans (h.2 i hi.1)⟩
def tG (c : Cc) (t : Tg) : TG := fun v σ H Q => ∃ w rs s d s', Rel c w rs s σ H ∧ Is c w H v d ∧ setT t d s = some ((), s') ∧ ∀ σ', Rel c w rs s' σ' H → AgreeBut t.ids σ σ' → Q σ' H
def tGs (c : Cc) (t : Tgs) : TGs := fun vs σ H Q => ∃ w rs s ds s', Rel c w rs s σ H ∧ IsAll c w H vs ds ∧ setTs t ds s = some ((), s') ∧ ∀ σ', Rel c w rs s' σ' H → AgreeBut t.ids σ σ' → Q σ' H
section
variable {X : Cx} {c : Cc} {e : Expr} {es : List Expr} {w : Wm} {rs : List V} {s : St} {σ : L2.St} {H : Hp}
theorem Rel.set (R : Rel c w rs s σ H) {i : Nat} {v : V} {d : D} (q : Is c w H v d) : Rel c w rs { s with L := s.L.set i (.val d) } (σ.set i (some v)) H := by
  refine ⟨by simpa using R.len, fun j y x e1 e2 => ?_, R.st⟩
  by_cases hj : j = i
  · subst hj
    by_cases hl : j < s.L.length
    · simp only [List.getElem?_set_self hl] at e1
      rw [List.getElem?_set_self (by rw [← R.len]; exact hl)] at e2
      cases e1; cases e2
      exact ⟨v, rfl, q⟩
    · simp only [List.getElem?_eq_none (show (s.L.set j (.val d)).length ≤ j by simpa using hl)] at e1
      cases e1
  · simp only [List.getElem?_set_ne (Ne.symm hj)] at e1
    rw [List.getElem?_set_ne (Ne.symm hj)] at e2
    exact R.sl j y x e1 e2
theorem Tg.eachCons (t : Tg) (es : List Expr) (env : PySem.Env) : assignEach (t.py :: es) env = (false, assign t.py env) :: assignEach es env := by
  cases t <;> (rw [Tg.py]; rfl)
theorem Tgs.each (env : PySem.Env) : ∀ ts : Tgs, (assignEach ts.py env).length = ts.len ∧ (assignEach ts.py env).findIdx? (·.1) = none
  | .nil => by rw [Tgs.py]; exact ⟨rfl, rfl⟩
  | .cons t ts => by
    rw [Tgs.py, Tg.eachCons]
    obtain ⟨h1, h2⟩ := Tgs.each env ts
    exact ⟨by rw [List.length_cons, h1]; rfl, by rw [List.findIdx?_cons, h2]; rfl⟩
/-! a target's names are where they are said to be, and may be stored -/
mutual
def okT (N : List Str) (sc : Scope) (fnb : Str → Bool) : Tg → Bool
  | .nm i x _ => decide (N[i]? = some x) && (match sc.names.lookup x with | some .local => true | some .cell => fnb x | _ => false)
  | .tp ts _ _ => okTs N sc fnb ts
def okTs (N : List Str) (sc : Scope) (fnb : Str → Bool) : Tgs → Bool
  | .nil => true
  | .cons t ts => okT N sc fnb t && okTs N sc fnb ts
end
theorem setTs_len : ∀ {ts : Tgs} {ds : List D} {s s' : St}, setTs ts ds s = some ((), s') → ds.length = ts.len
  | .nil, [], _, _, _ => rfl
  | .nil, _ :: _, _, _, h => by simp [setTs, fail] at h
  | .cons _ _, [], _, _, h => by simp [setTs, fail] at h
  | .cons t ts, d :: ds, s, s', h => by
    rw [setTs] at h
    obtain ⟨_, s1, _, h2⟩ := bnd_some.mp h
    rw [List.length_cons, setTs_len h2]; rfl
mutual
theorem sT (hN : X.N.Nodup) (hc : X.calm = true) : ∀ (t : Tg), okT X.N X.env.scope X.fn t = true → PG X t.py (tG c t)
  | .nm i x p, ok => by
    rw [okT, Bool.and_eq_true, decide_eq_true_eq] at ok
    rw [Tg.py]
    have hl : Loc X.env.scope x := by
      have := ok.2
      split at this
      · rename_i h; exact .inl h
      · rename_i h; exact .inr h
      · cases this
    have hf : X.fn x = true ∨ X.env.scope.names.lookup x = some .local := by
      have := ok.2
      split at this
      · rename_i h; exact .inr h
      · exact .inl this
      · cases this
    refine ⟨fun pins s σ H v u Q I r h => (pg_name hN ok.1 hl hf).run pins s σ H v u Q I r ?_⟩
    obtain ⟨w, rs, s, d, s', R, q, e, k⟩ := h
    rw [setT, setV] at e
    split at e
    · cases e
      exact k _ (R.set q) ⟨by simp, fun j hj => by
        rw [Tg.ids, List.mem_singleton] at hj
        rw [List.getElem?_set_ne (Ne.symm hj)]⟩
    · cases e
  | .tp ts k p, ok => by
    rw [okT] at ok
    rw [Tg.py]
    obtain ⟨h1, h2⟩ := Tgs.each X.env ts
    refine ⟨fun pins s σ H v u Q I r h => ?_⟩
    obtain ⟨w, rs, s, d, s', R, q, e, k⟩ := h
    cases q with
    | tup h r' =>
      rw [setT] at e
      exact (pg_tup hc (sTs hN hc ts ok) h1 h2).run pins _ σ H _ u Q I r ⟨_, _, rfl, h.sq, by rw [r'.length]; exact setTs_len e, w, rs, s, _, s', R, r', e, fun σ' R' a => k σ' R' (by rw [Tg.ids]; exact a)⟩
    | lst h r' =>
      rw [setT] at e
      exact (pg_lst hc (sTs hN hc ts ok) h1 h2).run pins _ σ H _ u Q I r ⟨_, _, rfl, h.sq, by rw [r'.length]; exact setTs_len e, w, rs, s, _, s', R, r', e, fun σ' R' a => k σ' R' (by rw [Tg.ids]; exact a)⟩
    | _ => simp [setT, fail] at e
theorem sTs (hN : X.N.Nodup) (hc : X.calm = true) : ∀ (t : Tgs), okTs X.N X.env.scope X.fn t = true → PGs X t.py (tGs c t)
  | .nil, _ => by
    rw [Tgs.py]
    refine ⟨fun pins s σ H vs us Q I r h => pgs_nil.run pins s σ H vs us Q I r ?_⟩
    obtain ⟨w, rs, s, ds, s', R, q, e, k⟩ := h
    cases q with
    | nil =>
      rw [setTs] at e
      cases ret_some.mp e
      exact ⟨rfl, k σ R (AgreeBut.refl _ _)⟩
    | cons _ _ => simp [setTs, fail] at e
  | .cons t ts, ok => by
    rw [okTs, Bool.and_eq_true] at ok
    rw [Tgs.py]
    refine ⟨fun pins s σ H vs us Q I r h => (pgs_cons (sT hN hc t ok.1) (sTs hN hc ts ok.2) (by rw [Tg.eachCons]; rfl)).run pins s σ H vs us Q I r ?_⟩
    obtain ⟨w, rs, s, ds, s', R, q, e, k⟩ := h
    cases q with
    | nil => simp [setTs, fail] at e
    | cons q qs =>
      rw [setTs] at e
      obtain ⟨_, s1, e1, e2⟩ := bnd_some.mp e
      refine ⟨_, _, rfl, w, rs, s, _, s1, R, q, e1, fun σ1 R1 a1 => ?_⟩
      exact ⟨w, rs, s1, _, s', R1, qs, e2, fun σ2 R2 a2 => k σ2 R2 (by rw [Tgs.ids]; exact a1.trans a2)⟩
end

/-! ### what is walked -/
def WalkD (c : Cc) (J : L2.It) (items : List D) (w : Wm) (H : Hp) : Prop :=
  ∀ w1 H1, StepN w H w1 H1 → J.stop items.length H1 ∧ ∀ i d, items[i]? = some d → J.go i H1 ∧ ∀ x H2, J.yld i H1 x H2 → ∃ w2, Same2 w1 H1 w2 H2 ∧ Is c w2 H2 x d
theorem StepN.trans {w w1 w2 : Wm} {H H1 H2 : Hp} (a : StepN w H w1 H1) (b : StepN w1 H1 w2 H2) : StepN w H w2 H2 := fun x o h k => by
  obtain ⟨h1, k1⟩ := a x o h k
  exact b x o h1 k1
theorem WalkD.stepN {J : L2.It} {items : List D} {w' : Wm} {H' : Hp} (h : WalkD c J items w H) (st : StepN w H w' H') : WalkD c J items w' H' := fun w1 H1 s1 => h w1 H1 (st.trans s1)
def tI (c : Cc) (m : M (List D)) : TI := fun σ H R => ∃ w rs s items s', Rel c w rs s σ H ∧ m s = some (items, s') ∧ ∀ J H' w', Rel c w' rs s' σ H' → WalkD c J items w' H' → Step w H w' H' → R J H'
theorem PI_or {tg : Expr} {w1 w2 : TI} (h1 : PI X tg e w1) (h2 : PI X tg e w2) : PI X tg e (fun σ H R => w1 σ H R ∨ w2 σ H R) := ⟨fun pins s σ H R I h => h.elim (h1.run pins s σ H R I) (h2.run pins s σ H R I)⟩
theorem PI_imp {tg : Expr} {w1 w2 : TI} (h1 : PI X tg e w1) (k : ∀ σ H R, w2 σ H R → w1 σ H R) : PI X tg e w2 := ⟨fun pins s σ H R I h => h1.run pins s σ H R I (k σ H R h)⟩
/-- a list or a tuple: either, by what comes -/
def iSeq (K : PySem.W.Frag) (tl : TE) : TI := fun σ H R => tl σ H fun x H1 => (∃ a, x = .ref a ∧ (∃ xs, SqL K H1 a xs) ∧ R (Itl K a) H1) ∨ (∃ a, x = .ref a ∧ (∃ xs, SqT K H1 a xs) ∧ R (Itt K a) H1)
theorem pi_seq {tg : Expr} {tl : TE} (hl : PE X e tl) : PI X tg e (iSeq X.K tl) := by
  refine ⟨fun pins s σ H R I h => ?_⟩
  refine thn (hl.run pins s σ H _ I h) fun v s1 ⟨x, H1, I1, r1, q1⟩ => ?_
  rcases q1 with ⟨a, e, ⟨xs, hq⟩, q⟩ | ⟨a, e, ⟨xs, hq⟩, q⟩
  · subst e
    cases r1
    obtain ⟨its, rv, p, hz⟩ := I1.list hq
    refine wpAny_pyIter_list p.isList ?_
    refine ⟨s1.heap.objs.size, [s1.heap.objs.size], _, _, H1, rfl, I1.kept (t' := s1.toks) fun b o e => Heap.get?_push_of_some _ e, turn_list a _, ⟨_, Heap.get?_push_size _ rfl, rfl, rfl⟩, fun b hb => ?_, q⟩
    have e : b = s1.heap.objs.size := by simpa using hb
    subst e
    exact I1.fpOk (Nat.le_refl _) (I1.hok.fresh (Nat.le_refl _))
  · subst e
    cases r1
    obtain ⟨its, rv, p, hz⟩ := I1.tuple hq
    refine wpAny_pyIter_tuple (show s1.heap.IsTuple a its.toArray from p) ?_
    refine ⟨s1.heap.objs.size, [s1.heap.objs.size], _, _, H1, rfl, I1.kept (t' := s1.toks) fun b o e => Heap.get?_push_of_some _ e, turn_tuple a _, ⟨_, Heap.get?_push_size _ rfl, rfl, rfl⟩, fun b hb => ?_, q⟩
    have e : b = s1.heap.objs.size := by simpa using hb
    subst e
    exact I1.fpOk (Nat.le_refl _) (I1.hok.fresh (Nat.le_refl _))
theorem walk_list {a : Addr} {vs : List V} {ds : List D} (h : LsA w H a vs) (r : IsAll c w H vs ds) : WalkD c (Itl c.K a) ds w H := fun w1 H1 st => by
  have h1 := h.stepN st
  have r1 := r.stepN st
  refine ⟨⟨vs, h1.sq, by rw [r.length]; exact Nat.le_refl _⟩, fun i d e => ?_⟩
  obtain ⟨v, e1, q⟩ := r1.get e
  refine ⟨⟨vs, v, h1.sq, e1⟩, fun x H2 y => ?_⟩
  obtain ⟨y1, y2⟩ := y
  subst y1
  have e2 := y2 vs h1.sq
  rw [e1] at e2; cases e2
  exact ⟨w1, Same2.refl _ _, q⟩
theorem walk_tup {a : Addr} {vs : List V} {ds : List D} (h : TpA w H a vs) (r : IsAll c w H vs ds) : WalkD c (Itt c.K a) ds w H := fun w1 H1 st => by
  have h1 := h.stepN st
  have r1 := r.stepN st
  refine ⟨⟨vs, h1.sq, by rw [r.length]; exact Nat.le_refl _⟩, fun i d e => ?_⟩
  obtain ⟨v, e1, q⟩ := r1.get e
  refine ⟨⟨vs, v, h1.sq, e1⟩, fun x H2 y => ?_⟩
  obtain ⟨y1, y2⟩ := y
  subst y1
  have e2 := y2 vs h1.sq
  rw [e1] at e2; cases e2
  exact ⟨w1, Same2.refl _ _, q⟩
theorem walk_range (lo : Int) (n : Nat) : WalkD c (Itr lo n) ((List.range n).map fun (k : Nat) => D.int (lo + k)) w H := fun w1 H1 st => by
  refine ⟨by show n ≤ _; simp, fun i d e => ?_⟩
  rw [List.getElem?_map] at e
  obtain ⟨k, e1, rfl⟩ := Option.map_eq_some_iff.mp e
  obtain ⟨h1, e2⟩ := List.getElem?_eq_some_iff.mp e1
  rw [List.getElem_range] at e2
  subst e2
  rw [List.length_range] at h1
  refine ⟨h1, fun x H2 y => ?_⟩
  obtain ⟨y1, y2⟩ := y
  subst y1 y2
  exact ⟨w1, Same2.refl _ _, .int _⟩
theorem d_iseq {tg : Expr} (hK : X.K = c.K) {m : M D} (h : PE X e (tE c m)) : PI X tg e (tI c (bnd m fun x => ofO (itD x))) := PI_imp (pi_seq h) fun σ H Rq ⟨w, rs, s, items, s', R, e, k⟩ => by
  obtain ⟨d1, s1, e1, e5⟩ := bnd_some.mp e
  obtain ⟨z, ez, ez'⟩ := ofO_some.mp e5
  injection ez' with z1 z2; subst z1 z2
  refine ⟨w, rs, s, d1, _, R, e1, fun v1 H1 w1 R1 q1 st1 => ?_⟩
  rw [hK]
  cases q1 <;> simp only [itD] at ez <;> try cases ez
  · rename_i h r
    exact .inl ⟨_, rfl, ⟨_, h.sq⟩, k _ H1 w1 R1 (walk_list h r) st1⟩
  · rename_i h r
    exact .inr ⟨_, rfl, ⟨_, h.sq⟩, k _ H1 w1 R1 (walk_tup h r) st1⟩
theorem d_irng {tg : Expr} {m : M D} (h : PI X tg e (iRng1 (tCons (tE c m) tNil))) : PI X tg e (tI c (bnd m fun x => match x with
    | .int n => if -(2 ^ 62) ≤ n ∧ n < 2 ^ 62 then ret (rangeD 0 n) else fail
    | _ => fail)) := PI_imp h fun σ H Rq ⟨w, rs, s, items, s', R, e, k⟩ => by
  obtain ⟨d1, s1, e1, e5⟩ := bnd_some.mp e
  split at e5
  · rename_i n
    split at e5
    · rename_i hn
      cases ret_some.mp e5
      refine ⟨w, rs, s, _, _, R, e1, fun v1 H1 w1 R1 q1 st1 => ?_⟩
      cases q1
      refine ⟨n, rfl, hn.1, hn.2, k _ H1 w1 R1 ?_ st1⟩
      have := walk_range (c := c) (w := w1) (H := H1) 0 n.toNat
      unfold rangeD
      rw [show n - 0 = n by omega]
      exact this
    · simp [fail] at e5
  · simp [fail] at e5
theorem d_irng2 {tg : Expr} {m m' : M D} (h : PI X tg e (iRng2 (tCons (tE c m) (tCons (tE c m') tNil)))) : PI X tg e (tI c (bnd m fun x => bnd m' fun y => match x, y with
    | .int i, .int n => if -(2 ^ 62) ≤ i ∧ i < 2 ^ 62 ∧ -(2 ^ 62) ≤ n ∧ n < 2 ^ 62 then ret (rangeD i n) else fail
    | _, _ => fail)) := PI_imp h fun σ H Rq ⟨w, rs, s, items, s', R, e, k⟩ => by
  obtain ⟨d1, s1, e1, e4⟩ := bnd_some.mp e
  obtain ⟨d2, s2, e2, e5⟩ := bnd_some.mp e4
  split at e5
  · rename_i i n
    split at e5
    · rename_i hn
      cases ret_some.mp e5
      refine ⟨w, rs, s, _, _, R, e1, fun v1 H1 w1 R1 q1 st1 => ?_⟩
      refine ⟨w1, rs, s1, _, _, R1, e2, fun v2 H2 w2 R2 q2 st2 => ?_⟩
      cases q1; cases q2
      exact ⟨i, n, rfl, hn, k _ H2 w2 R2 (walk_range i _) (st1.trans st2)⟩
    · simp [fail] at e5
  · simp [fail] at e5
end
end Dm

/-! The D machine: comprehensions. -/
namespace Dm
open PySem L2 PyProof.Rows
section
variable {X : Cx} {c : Cc} {e : Expr} {es : List Expr} {w : Wm} {rs : List V} {s : St} {σ : L2.St} {H : Hp}
theorem wipeL_length (L : List Slot) : ∀ vs : List Nat, (wipeL L vs).length = L.length
  | [] => rfl
  | v :: vs => by unfold wipeL; rw [List.length_set, wipeL_length L vs]
theorem wipeL_in {L : List Slot} {i : Nat} : ∀ {vs : List Nat}, i ∈ vs → i < L.length → (wipeL L vs)[i]? = some .no
  | v :: vs, h, hl => by
    unfold wipeL
    by_cases hi : v = i
    · subst hi
      rw [List.getElem?_set_self (by rw [wipeL_length]; exact hl)]
    · rw [List.getElem?_set_ne hi]
      exact wipeL_in ((List.mem_cons.mp h).resolve_left (Ne.symm hi)) hl
theorem wipeL_out {L : List Slot} {i : Nat} : ∀ {vs : List Nat}, i ∉ vs → (wipeL L vs)[i]? = L[i]?
  | [], _ => rfl
  | v :: vs, h => by
    rw [List.mem_cons, not_or] at h
    unfold wipeL
    rw [List.getElem?_set_ne (Ne.symm h.1)]
    exact wipeL_out h.2
theorem wipe_out' {σ : L2.St} {i : Nat} : ∀ {vs : List Nat}, i ∉ vs → (wipe σ vs)[i]? = σ[i]?
  | [], _ => rfl
  | v :: vs, h => by
    rw [List.mem_cons, not_or] at h
    unfold wipe
    rw [List.getElem?_set_ne (Ne.symm h.1)]
    exact wipe_out' h.2
theorem wipe_in' {σ : L2.St} {i : Nat} : ∀ {vs : List Nat}, i ∈ vs → i < σ.length → (wipe σ vs)[i]? = some none
  | v :: vs, h, hl => by
    unfold wipe
    by_cases hi : v = i
    · subst hi
      rw [List.getElem?_set_self (by rw [wipe_length]; exact hl)]
    · rw [List.getElem?_set_ne hi]
      exact wipe_in' ((List.mem_cons.mp h).resolve_left (Ne.symm hi)) hl
theorem backL_length (L0 L : List Slot) : ∀ vs : List Nat, (backL L0 L vs).length = L.length
  | [] => rfl
  | v :: vs => by unfold backL; rw [List.length_set, backL_length L0 L vs]
def keepV (L0 : List Slot) (v : Nat) : Slot := match L0[v]? with | some (.val d) => .val d | _ => .no
theorem backL_in {L0 L : List Slot} {i : Nat} : ∀ {vs : List Nat}, i ∈ vs → i < L.length → (backL L0 L vs)[i]? = some (keepV L0 i)
  | v :: vs, h, hl => by
    unfold backL
    by_cases hi : v = i
    · subst hi
      rw [List.getElem?_set_self (by rw [backL_length]; exact hl)]
      rfl
    · rw [List.getElem?_set_ne hi]
      exact backL_in ((List.mem_cons.mp h).resolve_left (Ne.symm hi)) hl
theorem backL_out {L0 L : List Slot} {i : Nat} : ∀ {vs : List Nat}, i ∉ vs → (backL L0 L vs)[i]? = L[i]?
  | [], _ => rfl
  | v :: vs, h => by
    rw [List.mem_cons, not_or] at h
    unfold backL
    rw [List.getElem?_set_ne (Ne.symm h.1)]
    exact backL_out h.2
theorem wipe_of_agree {σ σ' : L2.St} {ids vs : List Nat} (a : AgreeBut ids σ σ') (h : ∀ i ∈ ids, i ∈ vs) : wipe σ' vs = wipe σ vs := by
  refine List.ext_getElem? fun i => ?_
  by_cases hi : i ∈ vs
  · by_cases hl : i < σ.length
    · rw [wipe_in' hi hl, wipe_in' hi (by rw [a.1]; exact hl)]
    · rw [List.getElem?_eq_none (by rw [wipe_length, a.1]; omega), List.getElem?_eq_none (by rw [wipe_length]; omega)]
  · rw [wipe_out' hi, wipe_out' hi, a.2 i fun z => hi (h i z)]
theorem wipe_wipe {σ : L2.St} (vs : List Nat) : wipe (wipe σ vs) vs = wipe σ vs := by
  refine List.ext_getElem? fun i => ?_
  by_cases hi : i ∈ vs
  · by_cases hl : i < σ.length
    · rw [wipe_in' hi hl, wipe_in' hi (by rw [wipe_length]; exact hl)]
    · rw [List.getElem?_eq_none (by rw [wipe_length, wipe_length]; omega), List.getElem?_eq_none (by rw [wipe_length]; omega)]
  · rw [wipe_out' hi]
theorem Rel.wipe (R : Rel c w rs s σ H) (vs : List Nat) : Rel c w rs { s with L := wipeL s.L vs } (L2.wipe σ vs) H := by
  refine ⟨by rw [wipe_length]; show (wipeL s.L vs).length = _; rw [wipeL_length]; exact R.len, fun i y x e1 e2 => ?_, R.st⟩
  by_cases hi : i ∈ vs
  · by_cases hl : i < s.L.length
    · have e1 : (wipeL s.L vs)[i]? = some y := e1
      rw [wipeL_in hi hl] at e1; cases e1
      trivial
    · have e1 : (wipeL s.L vs)[i]? = some y := e1
      rw [List.getElem?_eq_none (by rw [wipeL_length]; omega)] at e1; cases e1
  · have e1 : (wipeL s.L vs)[i]? = some y := e1
    rw [wipeL_out hi] at e1
    rw [wipe_out' hi] at e2
    exact R.sl i y x e1 e2
/-- behind a block: the slots of its own as they were -/
theorem Rel.back {w1 : Wm} {H1 : Hp} {s1 : St} {vs : List Nat} (R : Rel c w rs s σ H) (R1 : Rel c w1 rs { s1 with L := wipeL s1.L vs } (L2.wipe σ vs) H1) (st : Step w H w1 H1) : Rel c w1 rs { s1 with L := backL s.L s1.L vs } σ H1 := by
  have hl : s1.L.length = σ.length := by
    have := R1.len
    rw [wipe_length] at this
    rw [← this]
    show _ = (wipeL s1.L vs).length
    rw [wipeL_length]
  refine ⟨by show (backL s.L s1.L vs).length = _; rw [backL_length]; exact hl, fun i y x e1 e2 => ?_, R1.st⟩
  have e1 : (backL s.L s1.L vs)[i]? = some y := e1
  by_cases hi : i ∈ vs
  · by_cases hil : i < s1.L.length
    · rw [backL_in hi hil] at e1; cases e1
      unfold keepV
      split
      · rename_i d e3
        obtain ⟨v, e4, q⟩ := R.val e3
        rw [e4] at e2; cases e2
        exact ⟨v, rfl, q.step st⟩
      · trivial
    · rw [List.getElem?_eq_none (by rw [backL_length]; omega)] at e1; cases e1
  · rw [backL_out hi] at e1
    refine R1.sl i y x ?_ (by rw [wipe_out' hi]; exact e2)
    show (wipeL s1.L vs)[i]? = _
    rw [wipeL_out hi]; exact e1
/-- the growing list is another's -/
def wout (w : Wm) (p : Addr) : Wm := fun a => if a = p then .out else w a
theorem wout_same {p : Addr} : wout w p p = .out := by unfold wout; rw [if_pos rfl]
theorem wout_ne {p a : Addr} (h : a ≠ p) : wout w p a = w a := by unfold wout; rw [if_neg h]
theorem Same2.wout {p : Addr} {o : HO} (hp : H p = none) : Same2 w H (wout w p) (upd H p o) := fun a u h => by
  have ne : a ≠ p := ne_of_none h hp
  exact ⟨by rw [upd_ne ne]; exact h, wout_ne ne⟩
theorem Same2.step {w' : Wm} {H' : Hp} (h : Same2 w H w' H') : Step w H w' H' := fun a o e _ => h a o e
/-- it grows: all others stay -/
theorem Rel.grow {p : Addr} {o' : HO} (R : Rel c w rs s σ H) (hw : w p = .out) : Rel c w rs s σ (upd H p o') := by
  have st : ∀ a u, H a = some u → w a ≠ .out → (upd H p o') a = some u ∧ w a = w a := fun a u h k => by
    have ne : a ≠ p := fun z => k (by rw [z]; exact hw)
    exact ⟨by rw [upd_ne ne]; exact h, rfl⟩
  exact R.keepN (fun a o h k => ⟨(st a o h (by rw [k]; intro z; cases z)).1, k⟩) (fun a o i q h k => st a o h (by rw [k]; intro z; cases z)) (fun a o i q h k => st a o h (by rw [k]; intro z; cases z))
theorem StepN.grow {p : Addr} {o' : HO} (hw : w p = .out) : StepN w H w (upd H p o') := fun a u h k => by
  have ne : a ≠ p := fun z => by rw [z, hw] at k; cases k
  exact ⟨by rw [upd_ne ne]; exact h, k⟩
/-- the list is nobody's in the end -/
theorem Rel.done {p : Addr} (R : Rel c w rs s σ H) (hw : w p = .out) : Rel c (wnew w p) rs s σ H := by
  have ne : ∀ a, w a ≠ .out → wnew w p a = w a := fun a k => by
    unfold wnew; rw [if_neg]; intro z; rw [z] at k; exact k hw
  exact R.keepN (fun a o h k => ⟨h, by rw [ne a (by rw [k]; intro z; cases z)]; exact k⟩) (fun a o i q h k => ⟨h, ne a (by rw [k]; intro z; cases z)⟩) (fun a o i q h k => ⟨h, ne a (by rw [k]; intro z; cases z)⟩)
theorem StepN.done {p : Addr} (hw : w p = .out) : StepN w H (wnew w p) H := fun a u h k => by
  refine ⟨h, ?_⟩
  unfold wnew
  split
  · rfl
  · exact k

theorem i_comp {tg : Tg} {ids : List Nat} {mi : M (List D)} {mt : M Bool} {me : M D} (hid : ∀ i ∈ tg.ids, i ∈ ids) :
    ∀ σ H Q, tE c (bnd mi fun items => inScope ids (runItems ids tg (bnd mt fun b => if b then bnd me fun d => ret [d] else ret []) items)) σ H Q → tLc (tI c mi) (tG c tg) (tBo c mt) (tE c me) ids σ H Q := fun σ H Q ⟨w, rs, s, d, s', R, e, k⟩ => by
  obtain ⟨items, s1, e1, e2⟩ := bnd_some.mp e
  unfold inScope at e2
  split at e2
  · rename_i ds s2 e3
    split at e2
    · rename_i hz
      cases e2
      refine ⟨w, rs, s, items, s1, R, e1, fun J H1 w1 R1 wd st1 A0 hA => ?_⟩
      let body : M (List D) := bnd mt fun b => if b then bnd me fun d => ret [d] else ret []
      let Wp : Nat → Hp → Prop := fun i H => i ≤ items.length ∧ ∃ w2 sI acc as, Rel c w2 rs { sI with L := wipeL sI.L ids } (L2.wipe σ ids) H ∧ H A0 = some (.lst acc) ∧ w2 A0 = .out ∧ IsAll c w2 H acc as ∧
        StepN w1 H1 w2 H ∧ (∀ a o, H1 a = some o → w1 a = .out → H a = some o ∧ w2 a = .out) ∧ ∃ zs, runItems ids tg body (items.drop i) sI = some (zs, s2) ∧ as ++ zs = ds
      have W0 : Wp 0 (upd H1 A0 (.lst [])) := by
        refine ⟨Nat.zero_le _, wout w1 A0, s1, [], [], ?_, upd_same, wout_same, .nil, (Same2.wout hA).step.n, fun a o h k => ?_, ds, by simpa using e3, rfl⟩
        · exact (R1.ext (Same2.wout hA)).wipe ids
        · have := Same2.wout (o := .lst []) (w := w1) hA a o h
          exact ⟨this.1, this.2.trans k⟩
      refine ⟨fun i m H => m = items.length - i ∧ Wp i H, ⟨items.length, by simp, W0⟩, ?_⟩
      rintro i m H2 ⟨rfl, hi, w2, sI, acc, as, R2, hacc, hw2, ra, st2, so2, zs, ez, ed⟩
      have stp : Step w1 H1 w2 H2 := fun a o h k => by
        rcases k with k | k
        · exact ⟨(st2 a o h k).1, (st2 a o h k).2.trans k.symm⟩
        · exact ⟨(so2 a o h k).1, (so2 a o h k).2.trans k.symm⟩
      obtain ⟨wstop, wgo⟩ := wd w2 H2 stp.n
      by_cases hlt : i < items.length
      · refine .inr ?_
        have eg : items[i]? = some items[i] := by simp [hlt]
        obtain ⟨g1, g2⟩ := wgo i _ eg
        refine ⟨g1, Wp (i + 1), fun H' hW => ⟨items.length - (i + 1), by omega, rfl, hW⟩, fun x H3 y => ?_⟩
        obtain ⟨w3, sm3, q3⟩ := g2 x H3 y
        -- the machine's turn
        rw [List.drop_eq_getElem_cons hlt, runItems] at ez
        obtain ⟨_, t1, ez1, ez⟩ := bnd_some.mp ez
        cases ez1
        obtain ⟨_, t2, ez2, ez⟩ := bnd_some.mp ez
        obtain ⟨ys, t3, ez3, ez⟩ := bnd_some.mp ez
        obtain ⟨zs', t4, ez4, ez⟩ := bnd_some.mp ez
        cases ret_some.mp ez
        obtain ⟨b, t5, eb, ey⟩ := bnd_some.mp ez3
        have R3 := R2.ext sm3
        have acc3 : H3 A0 = some (.lst acc) := (sm3 _ _ hacc).1
        have out3 : w3 A0 = .out := (sm3 _ _ hacc).2.trans hw2
        refine ⟨w3, rs, _, _, t2, R3, q3, ez2, fun σ4 R4 ag => ⟨?_, ?_⟩⟩
        · rw [wipe_of_agree ag hid, wipe_wipe]
        refine ⟨w3, rs, t2, b, t5, R4, eb, fun H5 w5 R5 st5 => ?_⟩
        have so5 : Step w2 H2 w5 H5 := sm3.step.trans st5
        have fin : ∀ {w6 : Wm} {H6 : Hp} {t6 : St} {acc' : List V} {as' : List D}, Rel c w6 rs t6 σ4 H6 → H6 A0 = some (.lst acc') → w6 A0 = .out → IsAll c w6 H6 acc' as' → StepN w1 H1 w6 H6 → (∀ a o, H1 a = some o → w1 a = .out → H6 a = some o ∧ w6 a = .out) →
            runItems ids tg body (items.drop (i + 1)) t6 = some (zs', s2) → as' ++ zs' = ds → Wp (i + 1) H6 := by
          intro w6 H6 t6 acc' as' r1 r2 r3 r4 r5 r6 r7 r8
          refine ⟨hlt, w6, t6, acc', as', ?_, r2, r3, r4, r5, r6, zs', r7, r8⟩
          have := r1.wipe ids
          rw [wipe_of_agree ag hid, wipe_wipe] at this
          exact this
        have ws5 := stp.trans so5
        have hA5 : H5 A0 = some (.lst acc) ∧ w5 A0 = .out := by
          have := st5 A0 _ acc3 (.inr out3)
          exact ⟨this.1, this.2.trans out3⟩
        dsimp only
        split at ey
        · rename_i hb
          rw [if_pos hb]
          obtain ⟨d6, t6, e6, ey⟩ := bnd_some.mp ey
          cases ret_some.mp ey
          refine ⟨w5, rs, t5, d6, _, R5, e6, fun v6 H6 w6 R6 q6 st6 => ⟨acc, ?_, ?_, ?_⟩⟩
          · exact (st6 _ _ hA5.1 (.inr hA5.2)).1
          · have := ra.length
            have h2 : (as ++ ([d6] ++ zs')).length ≤ sizeLine := by rw [ed]; exact hz
            rw [List.length_append, List.length_append, List.length_singleton] at h2
            omega
          · have hA6 := st6 _ _ hA5.1 (.inr hA5.2)
            have o6 : w6 A0 = .out := hA6.2.trans hA5.2
            have gN : StepN w6 H6 w6 (upd H6 A0 (.lst (acc ++ [v6]))) := StepN.grow o6
            have ws6 := ws5.trans st6
            refine fin (as' := as ++ [d6]) (R6.grow o6) upd_same o6 ?_ ?_ ?_ ez4 (by rw [← ed]; simp)
            · exact ((ra.step (so5.trans st6)).append (.cons q6 .nil)).stepN gN
            · exact fun a o h k => gN a o (ws6.n a o h k).1 (ws6.n a o h k).2
            · intro a o h k
              have ne : a ≠ A0 := ne_of_none h hA
              have z := ws6 a o h (.inr k)
              exact ⟨by rw [upd_ne ne]; exact z.1, z.2.trans k⟩
        · rename_i hb
          rw [if_neg hb]
          cases ret_some.mp ey
          exact fin R5 hA5.1 hA5.2 (ra.step so5) ws5.n (fun a o h k => ⟨(ws5 a o h (.inr k)).1, (ws5 a o h (.inr k)).2.trans k⟩) ez4 (by rw [← ed]; rfl)
      · have ei : i = items.length := by omega
        subst ei
        refine .inl ⟨wstop, ?_⟩
        rw [List.drop_length, runItems] at ez
        cases ret_some.mp ez
        rw [List.append_nil] at ed
        subst ed
        have dn : StepN w2 H2 (wnew w2 A0) H2 := StepN.done hw2
        have st3 : Step w1 H1 (wnew w2 A0) H2 := fun a o h k => by
          have ne : a ≠ A0 := ne_of_none h hA
          have z := stp a o h k
          refine ⟨z.1, ?_⟩
          unfold wnew
          rw [if_neg ne]
          exact z.2
        refine k _ H2 (wnew w2 A0) (R1.back (R2.done hw2) st3) (.lst ⟨by unfold wnew; rw [if_pos rfl], hacc⟩ (ra.stepN dn)) (st1.trans st3)
    · cases e2
  · cases e2
theorem d_comp {tg : Tg} {ids : List Nat} {mi : M (List D)} {mt : M Bool} {me : M D} (hid : ∀ i ∈ tg.ids, i ∈ ids) (h : PE X e (tLc (tI c mi) (tG c tg) (tBo c mt) (tE c me) ids)) :
    PE X e (tE c (bnd mi fun items => inScope ids (runItems ids tg (bnd mt fun b => if b then bnd me fun d => ret [d] else ret []) items))) := pimp h (i_comp hid)
end
end Dm

/-! The D machine: comprehensions of any number of clauses. -/
namespace Dm
open PySem L2 PyProof.Rows
abbrev lcE (elt : Expr) (gens : List Comprehension) (scope : Scope) (pos : Pos) : Expr := .ListComp elt gens scope pos
/-- what a turn does behind its tests: the next clause, or the element -/
def outOf (elt : Expr) (gens : List Comprehension) (scope : Scope) (pos : Pos) (i : Nat) (acc : Value) (env : PySem.Env) : Sem Unit :=
  match gens[i]? with
  | some g => do
    let x ← eval g.iter env
    standAt g.iter.pos
    let x ← foldedSetIterable g.iter env x
    let _ ← runOwn (.compStart (lcE elt gens scope pos) i (← holding [x] (pyIter x)) acc env) env
  | none => do
    let _ ← call (.builtin "list.append") [acc, ← eval elt env]
def testsOf (ifs : List Expr) (env : PySem.Env) : Sem Bool := forIn ifs true fun c r => if r = true then do let ok ← isTrue c env (eval c env); pure (ForInStep.yield ok) else pure (ForInStep.yield r)
theorem turn_at {elt : Expr} {gens : List Comprehension} {scope : Scope} {pos : Pos} {i : Nat} {t iter : Expr} {ifs : List Expr} {it acc : Value} {env : PySem.Env} (h : gens[i]? = some ⟨t, iter, ifs, 0⟩) (hn : ∀ g, gens[i + 1]? = some g → g.is_async = 0) :
    compTurn (lcE elt gens scope pos) i it acc env = (do
      standAt iter.pos
      match ← pyNext it with
      | none => pure (.done .next)
      | some v =>
        letOwnedTupleGo t it v
        assign t env v
        let ok ← testsOf ifs env
        if ok then outOf elt gens scope pos (i + 1) acc env
        again (.compLoop (lcE elt gens scope pos) i it acc env)) := by
  unfold compTurn lcE
  dsimp only
  rw [h]
  unfold outOf testsOf
  cases hg : gens[i + 1]? with
  | none => rfl
  | some g =>
    have := hn g hg
    obtain ⟨gt, gi, gf, ga⟩ := g
    simp only at this
    subst this
    simp only [bind_assoc, pure_bind]
    rfl
section
variable {prog : Program} {w : World} {A : Around} {R : Result → Shared → Prop} {s : Shared} {elt t iter : Expr} {gens : List Comprehension} {ifs : List Expr} {scope : Scope} {pos : Pos} {it acc : Value} {env : PySem.Env} {i : Nat}
/-- a clause's loop, that nothing leaves by an error -/
theorem loop_at (h : gens[i]? = some ⟨t, iter, ifs, 0⟩) (hn : ∀ g, gens[i + 1]? = some g → g.is_async = 0) (J : Nat → Shared → Prop)
    (turn : ∀ n s, J n s → wpAny (model prog w) A (pyNext it) (fun r s1 => match r with
      | none => R (.ok .next) s1
      | some v => wpAny (model prog w) A (letOwnedTupleGo t it v) (fun _ s2 => wpAny (model prog w) A (assign t env v) (fun _ s3 => wpAny (model prog w) A (testsOf ifs env) (fun ok s4 =>
          if ok = true then wpAny (model prog w) A (outOf elt gens scope pos (i + 1) acc env) (fun _ s5 => ∃ m, m < n ∧ J m s5) (fun _ _ => False) s4 else ∃ m, m < n ∧ J m s4) (fun _ _ => False) s3) (fun _ _ => False) s2) (fun _ _ => False) s1) (fun _ _ => False) s)
    (n : Nat) (h0 : J n s) : codeAny (model prog w) A (.compLoop (lcE elt gens scope pos) i it acc env) R s := by
  refine codeAny_loop rfl J (fun n s hJ => ?_) n h0
  show wpAny _ A ((compTurn (lcE elt gens scope pos) i it acc env).onRaise (fun x => do noteFrame x env; theTreesLotGoes x)) _ _ s
  refine wpAny_noted ?_
  rw [turn_at h hn]
  refine wpAny_bind (wpAny_standAt (wpAny_bind (thnF (turn n s hJ) fun r s1 q1 => ?_)))
  cases r with
  | none => exact wpAny_pure q1
  | some v =>
    refine wpAny_bind (thnF q1 fun _ s2 q2 => wpAny_bind (thnF q2 fun _ s3 q3 => wpAny_bind (thnF q3 fun ok s4 q4 => ?_)))
    cases ok with
    | false => exact wpAny_pure ⟨rfl, q4⟩
    | true => exact wpAny_bind (thnF q4 fun _ s5 q5 => wpAny_pure ⟨rfl, q5⟩)
theorem start_at (h : gens[i]? = some ⟨t, iter, ifs, 0⟩) (h0 : codeAny (model prog w) A (.compLoop (lcE elt gens scope pos) i it acc env) R s)
    (h1 : wpAny (model prog w) A (pyIter it) (fun it' s' => codeAny (model prog w) A (.compLoop (lcE elt gens scope pos) i it' acc env) R s') (notedBy (model prog w) A env fun x s' => R (.error x) s') s) :
    codeAny (model prog w) A (.compStart (lcE elt gens scope pos) i it acc env) R s := by
  refine codeAny_of_tree ?_
  show wpAny _ _ ((compStart (lcE elt gens scope pos) i it acc env).onRaise (fun x => do noteFrame x env; standAt theWindowsPlace)) _ _ s
  refine wpAny_notedAt ?_
  have hc : clausesOf (lcE elt gens scope pos) = gens := rfl
  unfold compStart
  rw [hc, h]
  show wpAny _ _ (ask >>= _) _ _ s
  refine wpAny_bind (wpAny_askSetting (wpAny_ite ?_))
  split
  · first
      | exact wpAny_bind (wpAny_pure (wpAny_pure ⟨rfl, h0⟩))
      | exact wpAny_pure ⟨rfl, h0⟩
  · refine wpAny_bind (wpAny_rule ?_)
    show wpAny _ _ (standAt iter.pos >>= _) _ _ s
    exact wpAny_bind (wpAny_standAt (wpAny_bind (wpAny_mono h1 (fun it' s' q => wpAny_pure ⟨rfl, q⟩) fun _ _ x => x)))
end
/-- a clause, with what it means -/
structure Cl where
  tg : Expr
  iter : Expr
  ifs : List Expr
  wi : TI
  g : TG
  tt : TT
  vs : List Nat
def Cl.py (q : Cl) : Comprehension := ⟨q.tg, q.iter, q.ifs, 0⟩
def tOut (te : TE) (D : Addr) : List Cl → L2.St → Hp → (Hp → Prop) → Prop
  | [] => fun σ H Nx => te σ H fun y H7 => ∃ acc, H7 D = some (.lst acc) ∧ acc.length < sizeLine ∧ Nx (upd H7 D (.lst (acc ++ [y])))
  | q :: cs => fun σ H Nx => q.wi σ H fun J H1 => ∃ W : Nat → Nat → Hp → Prop, (∃ m, W 0 m H1) ∧ ∀ j k H, W j k H →
      (J.stop j H ∧ Nx H) ∨ (J.go j H ∧ ∃ N1 : Hp → Prop, (∀ H', N1 H' → ∃ k', k' < k ∧ W (j + 1) k' H') ∧ ∀ x H', J.yld j H x H' → q.g x (wipe σ q.vs) H' fun σ3 H5 => wipe σ3 q.vs = wipe σ q.vs ∧ q.tt σ3 H5 fun b H6 => if b = true then tOut te D cs σ3 H6 N1 else N1 H6)
def vsOf : List Cl → List Nat
  | [] => []
  | q :: _ => q.vs
def Nest : List Cl → Prop
  | [] => True
  | q :: cs => (∀ i ∈ vsOf cs, i ∈ q.vs) ∧ Nest cs
structure ClOk (Y : Cx) (q : Cl) : Prop where
  i : PI Y q.tg q.iter q.wi
  g : PG Y q.tg q.g
  t : PTs Y q.ifs q.tt
  f : ∀ env x, foldedSetIterable q.iter env x = pure x
theorem drop_get {gens : List Comprehension} {i : Nat} {cs : List Cl} (h : gens.drop i = cs.map Cl.py) (j : Nat) : gens[i + j]? = (cs[j]?).map Cl.py := by
  rw [← List.getElem?_map, ← h, List.getElem?_drop]
theorem drop_next {gens : List Comprehension} {i : Nat} {q : Cl} {cs : List Cl} (h : gens.drop i = (q :: cs).map Cl.py) : gens.drop (i + 1) = cs.map Cl.py := by
  rw [← List.drop_drop, h]; rfl
theorem async0 {gens : List Comprehension} {i : Nat} {cs : List Cl} (h : gens.drop i = cs.map Cl.py) (j : Nat) : ∀ g, gens[i + j]? = some g → g.is_async = 0 := fun g e => by
  rw [drop_get h] at e
  obtain ⟨q, _, rfl⟩ := Option.map_eq_some_iff.mp e
  rfl
section
variable {Y : Cx} {elt : Expr} {gens : List Comprehension} {scope : Scope} {pos : Pos} {te : TE} {D : Addr}
theorem wipe_more {σ σ3 : L2.St} {vs vs' : List Nat} (h : wipe σ3 vs = wipe σ vs) (hs : ∀ i ∈ vs', i ∈ vs) : (wipe σ vs).length = (wipe σ3 vs').length ∧ ∀ (j : Nat) v, (wipe σ vs)[j]? = some (some v) → (wipe σ3 vs')[j]? = some (some v) := by
  refine ⟨by rw [← h, wipe_length, wipe_length], fun j v e => ?_⟩
  rw [← h] at e
  obtain ⟨e1, e2⟩ := wipe_some e
  rw [wipe_out fun z => e2 (hs j z)]
  exact e1
theorem out_ok (hc : Y.calm = true) (hx : Y.xe = fun _ _ => False) (he : PE Y elt te) : ∀ (cs : List Cl) (i : Nat), gens.drop i = cs.map Cl.py → (∀ q ∈ cs, ClOk Y q) → Nest cs → ∀ (pins : List (Addr × Obj)) (s : Shared) (σ : L2.St) (H : Hp) (Nx : Hp → Prop), L2.Inv Y pins σ H s → tOut te D cs σ H Nx →
    wpAny (model Y.prog Y.w) Y.A (outOf elt gens scope pos i (.ref D) Y.env) (fun _ s' => ∃ H', L2.Inv Y pins (wipe σ (vsOf cs)) H' s' ∧ Nx H') (fun _ _ => False) s
  | [], i, hd, _, _, pins, s, σ, H, Nx, I, h => by
    have hg : gens[i]? = none := by
      have := drop_get hd 0
      simpa using this
    unfold outOf
    rw [hg]
    have r := he.run pins s σ H _ I h
    rw [hx] at r
    refine wpAny_bind (thnF r fun z s1 ⟨yv, H1, I1, r1, acc, hD, hz, nx⟩ => ?_)
    exact wpAny_bind (app_ok I1 hD hz r1 fun s2 I2 => wpAny_pure ⟨_, I2, nx⟩)
  | q :: cs, i, hd, hq, hn, pins, s, σ, H, Nx, I, h => by
    have hg : gens[i]? = some q.py := by
      have := drop_get hd 0
      simpa using this
    have hg : gens[i]? = some ⟨q.tg, q.iter, q.ifs, 0⟩ := hg
    have hd' := drop_next hd
    have Q := hq q List.mem_cons_self
    unfold outOf
    rw [hg]
    dsimp only
    have r := Q.i.run pins s σ H _ I h
    rw [hx] at r
    refine wpAny_bind (thnF r fun xv s1 k1 => ?_)
    refine wpAny_bind (wpAny_standAt (wpAny_bind (wpAny_of_eq (Q.f _ _) (wpAny_bind (wpAny_holding (thnF k1 fun itv s2 k2 => ?_))))))
    obtain ⟨a, fp, tn, J, H2, rfl, I2, T, st2, f2, W, ⟨m0, w0⟩, turn⟩ := k2
    have fo : ∀ {H' : Hp}, (∀ b ∈ fp, H' b = none) → ∀ b ∈ fp, FpOk Y pins H' b := fun hn b hb => ⟨hn b hb, (f2 b hb).2⟩
    refine wpAny_bind (wpAny_runOwn ?_)
    rw [Around.mark_none]
    have loop : codeAny (model Y.prog Y.w) Y.A (.compLoop (lcE elt gens scope pos) i (.ref a) (.ref D) Y.env) (fun r s' => match r with
        | .ok _ => ∃ H', L2.Inv Y pins (wipe σ q.vs) H' s' ∧ Nx H'
        | .error _ => False) s2 := by
      refine loop_at hg (async0 hd 1) (fun k s' => ∃ j H', L2.Inv Y pins (wipe σ q.vs) H' s' ∧ tn j s'.heap ∧ (∀ b ∈ fp, H' b = none) ∧ W j k H') ?_ m0 ⟨0, H2, I2.weak (wipe_length _ _) (fun j v e => (wipe_some e).1), st2, fun b hb => (f2 b hb).1, w0⟩
      rintro k s3 ⟨j, H3, I3, st3, n3, w3⟩
      rcases turn j k H3 w3 with ⟨stop, nx⟩ | ⟨go, N1, hN1, step⟩
      · refine thnF (T.done Y rfl rfl rfl hc j _ s3 (wipe σ q.vs) H3 (fun _ _ => False) I3 (fo n3) st3 stop) fun r s4 ⟨hr, I4⟩ => ?_
        subst hr
        exact ⟨H3, I4, nx⟩
      · refine thnF (T.item Y rfl rfl rfl hc j _ s3 (wipe σ q.vs) H3 (fun _ _ => False) I3 (fo n3) st3 go) fun r s4 ⟨u, hr, k4⟩ => ?_
        subst hr
        refine thnF k4 fun _ s5 ⟨x, H5, I5, r5, y5, st5, n5⟩ => ?_
        have I5' := I5.pinned (fo n5) (T.obj _ _ st5)
        have rg := Q.g.run _ s5 (wipe σ q.vs) H5 x u _ I5' r5 (step x H5 y5)
        rw [hx] at rg
        refine thnF rg fun _ s6 ⟨σ6, H6, I6, hw6, q6⟩ => ?_
        have rt := Q.t.run _ s6 σ6 H6 _ I6 q6
        rw [hx] at rt
        refine thnF rt fun b s7 ⟨H7, I7, q7⟩ => ?_
        have fin : ∀ {vs' : List Nat} {s' : Shared} {H' : Hp}, (∀ i ∈ vs', i ∈ q.vs) → L2.Inv Y (pins ++ pinsAt fp s5.heap) (wipe σ6 vs') H' s' → N1 H' → ∃ m, m < k ∧ ∃ j H', L2.Inv Y pins (wipe σ q.vs) H' s' ∧ tn j s'.heap ∧ (∀ b ∈ fp, H' b = none) ∧ W j m H' := fun {vs' s' H'} hvs I' nx => by
          obtain ⟨m', hm, w'⟩ := hN1 H' nx
          obtain ⟨l1, l2⟩ := wipe_more hw6 hvs
          have pin' : ∀ b ∈ fp, ∀ o, s5.heap.get? b = some o → s'.heap.get? b = some o ∧ H' b = none := fun b hb o e => by
            obtain ⟨z1, z2, _⟩ := I'.pin (b, o) (List.mem_append_right _ (List.mem_append_right _ (mem_pinsAt hb e)))
            exact ⟨z1, z2⟩
          refine ⟨m', hm, j + 1, H', I'.unpinned.weak l1 l2, T.keep _ _ _ st5 fun b hb o e => (pin' b hb o e).1, fun b hb => ?_, w'⟩
          obtain ⟨o, e, _⟩ := T.obj _ _ st5 b hb
          exact (pin' b hb o e).2
        cases b with
        | false => exact fin (vs' := []) (fun _ z => by cases z) I7 q7
        | true =>
          refine thnF (out_ok hc hx he cs (i + 1) hd' (fun z hz => hq z (List.mem_cons_of_mem _ hz)) hn.2 _ s7 σ6 H7 N1 I7 q7) fun _ s8 ⟨H8, I8, nx⟩ => ?_
          exact fin hn.1 I8 nx
    refine codeAny_mono (start_at hg loop (T.self Y.A 0 _ _ _ st2 loop)) fun r s' hr => ?_
    cases r with
    | ok f => exact wpAny_pure hr
    | error e => exact hr.elim
end
/-- the whole of it: D the new list -/
def tLcN (te : TE) (q : Cl) (cs : List Cl) : TE := fun σ H Q => q.wi σ H fun J H1 => ∀ D, H1 D = none → ∃ W : Nat → Nat → Hp → Prop, (∃ m, W 0 m (upd H1 D (.lst []))) ∧ ∀ i m H, W i m H →
  (J.stop i H ∧ Q (.ref D) H) ∨ (J.go i H ∧ ∃ N1 : Hp → Prop, (∀ H', N1 H' → ∃ m', m' < m ∧ W (i + 1) m' H') ∧ ∀ x H', J.yld i H x H' → q.g x (wipe σ q.vs) H' fun σ2 H2 => wipe σ2 q.vs = wipe σ q.vs ∧ q.tt σ2 H2 fun b H3 => if b = true then tOut te D cs σ2 H3 N1 else N1 H3)
abbrev nl0 : Obj := { cls := .type "list", data := .seq ([] : List Value).toArray }
section
variable {X : Cx}
abbrev Blk (X : Cx) (s : Shared) (H : Hp) (scope : Scope) (C : Addr) (cl : List (Str × Addr)) (fp : List Addr) : Cx := X.blk s H scope (compEnvC scope cl C X.env) fp
theorem lcN_core {pins : List (Addr × Obj)} {s : Shared} {σ : L2.St} {H : Hp} {Q : VK} {elt : Expr} {q : Cl} {cs : List Cl} {scope : Scope} {own : List (Str × Nat)} {pos pos' : Pos} {te : TE} {use : Option (Value → Sem Unit)} {Qf : Value → Shared → Prop}
    (hc : X.calm = true) (hN : X.N.Nodup) (I : L2.Inv X pins σ H s) (hi : PI X q.tg q.iter q.wi) (ok : BlkOk X.N X.env.scope scope own) (hv : q.vs = own.map (·.2)) (hf : ∀ x, foldedSetIterable q.iter X.env x = pure x) (hn : Nest (q :: cs))
    (hq : ∀ s H C cl fp, PG (Blk X s H scope C cl fp) q.tg q.g ∧ PTs (Blk X s H scope C cl fp) q.ifs q.tt ∧ ∀ z ∈ cs, ClOk (Blk X s H scope C cl fp) z) (he : ∀ s H C cl fp, PE (Blk X s H scope C cl fp) elt te)
    (h : tLcN te q cs σ H Q)
    (back : ∀ D C s' m H', L2.Inv X pins σ H' s' → Q (.ref D) H' → s'.heap.Ns C m → FpOk X pins H' C → compPost (model X.prog X.w) X.A X.xe use Qf (.ref D) C (.ok .next) s') :
    wpAny (model X.prog X.w) X.A (comprehension (lcE elt ((q :: cs).map Cl.py) scope pos) scope X.env pos' (newList []) false (eval q.iter X.env) use) Qf X.xe s := by
  have hfr : ∀ y ∈ scope.names, y.2 = .free → ∃ c, X.env.cells.lookup y.1 = some c := fun y hy e => (ok.free y hy e).elim (fun k => I.ok.has _ (.inl k)) fun k => I.ok.has _ (.inr k)
  have first := hi.run pins s σ H _ I h
  refine wpAny_comprehension_free (use := use) (g := q.py) (gs := cs.map Cl.py) rfl hf (closure_ok hfr) ok.kind (fun y hy e => by rw [ok.uniq y hy, e]) (thn first fun xv s1 k1 => thn k1 fun itv s2 k2 => ?_)
  obtain ⟨a, fp, tn, J, H2, rfl, I2, T, st2, f2, qq⟩ := k2
  refine wpAny_newObj_type (newEnv_comp ?_) (by show 0 ≤ sizeLine; decide)
  generalize eD : s2.heap.objs.size = D
  have hD : H2 D = none := I2.hok.fresh (Nat.le_of_eq eD)
  obtain ⟨W, ⟨m0, w0⟩, turn⟩ := qq D hD
  generalize e3 : ({ s2 with heap := s2.heap.push nl0 } : Shared) = s3
  have h3 : s3.heap = s2.heap.push nl0 := by rw [← e3]
  have I3 : L2.Inv X pins σ (upd H2 D (.lst [])) s3 := by
    rw [← e3]
    exact I2.laid (t' := s2.toks) (fun b o e => Heap.get?_push_of_some _ e) (Nat.le_of_eq eD) ⟨Nat.zero_le _, [], 0, .nil, by rw [← eD]; exact Heap.get?_push_size _ rfl⟩
  have lt2 : ∀ b ∈ fp, b < s2.heap.objs.size := fun b hb => let ⟨o, e, _⟩ := T.obj _ _ st2 b hb; Heap.lt_size e
  have f3 : ∀ b ∈ fp, FpOk X pins (upd H2 D (.lst [])) b ∧ b < s3.heap.objs.size := fun b hb => by
    refine ⟨⟨?_, (f2 b hb).2⟩, by rw [h3, Heap.size_push]; exact Nat.lt_succ_of_lt (lt2 b hb)⟩
    rw [upd_ne (by rw [← eD]; exact Nat.ne_of_lt (lt2 b hb))]
    exact (f2 b hb).1
  have st3 : tn 0 s3.heap := T.keep _ _ _ st2 fun b _ o e => by rw [h3]; exact Heap.get?_push_of_some _ e
  have I4 := block_start I3 ok hN f3
  obtain ⟨pg, pt, pc⟩ := hq s3 (upd H2 D (.lst [])) s3.heap.objs.size (cellsFrom (s3.heap.objs.size + 1) scope.names (cloFrom X.env.cells scope.names [])) fp
  have pe := he s3 (upd H2 D (.lst [])) s3.heap.objs.size (cellsFrom (s3.heap.objs.size + 1) scope.names (cloFrom X.env.cells scope.names [])) fp
  unfold Blk at pg pt pc pe
  show codeAny _ _ (.compStart (lcE elt ((q :: cs).map Cl.py) scope pos) 0 (.ref a) (.ref D) (compEnvC scope (cellsFrom (s3.heap.objs.size + 1) scope.names (cloFrom X.env.cells scope.names [])) s3.heap.objs.size X.env)) (compPost (model X.prog X.w) X.A X.xe use Qf (.ref D) s3.heap.objs.size) { s3 with heap := pushCells (s3.heap.push { cls := .type "dict", data := .dict #[] }) scope.names }
  have n3 : ∀ b ∈ fp, (upd H2 D (.lst [])) b = none := fun b hb => (f3 b hb).1.1
  generalize ec : compEnvC scope (cellsFrom (s3.heap.objs.size + 1) scope.names (cloFrom X.env.cells scope.names [])) s3.heap.objs.size X.env = ce at I4 pg pt pc pe ⊢
  have cl : ce.locals = s3.heap.objs.size := by subst ec; rfl
  generalize eH : upd H2 D (.lst []) = H3 at I3 I4 pg pt pc pe w0 n3 f3
  generalize e4 : ({ s3 with heap := pushCells (s3.heap.push { cls := .type "dict", data := .dict #[] }) scope.names } : Shared) = s4 at I4 ⊢
  have st4 : tn 0 s4.heap := T.keep _ _ _ st3 fun b _ o e => by rw [← e4]; exact pushCells_keeps _ _ _ _ (Heap.get?_push_of_some _ e)
  rw [← hv] at I4
  have yx : (X.blk s3 H3 scope ce fp).xe = fun _ _ => False := rfl
  have fo : ∀ {σ' : L2.St} {H' : Hp} {s' : Shared}, L2.Inv (X.blk s3 H3 scope ce fp) [] σ' H' s' → (∀ b ∈ fp, H' b = none) → ∀ b ∈ fp, FpOk (X.blk s3 H3 scope ce fp) [] H' b := by
    intro σ' H' s' I' hn b hb
    exact ⟨hn b hb, (I'.ok.exf b hb).1, I'.ok.exfs b hb, .inl hb, fun x c e => (I'.ok.exf b hb).2 x c e, fun p hp => absurd (show p ∈ ([] : List (Addr × Obj)) ++ [] from hp) (by simp)⟩
  have loop : codeAny (model X.prog X.w) X.A (.compLoop (lcE elt ((q :: cs).map Cl.py) scope pos) 0 (.ref a) (.ref D) ce) (compPost (model X.prog X.w) X.A X.xe use Qf (.ref D) s3.heap.objs.size) s4 := by
    refine loop_at (i := 0) (t := q.tg) (iter := q.iter) (ifs := q.ifs) rfl (async0 (i := 0) (cs := q :: cs) rfl 1) (fun n s' => ∃ i H', L2.Inv (X.blk s3 H3 scope ce fp) [] (wipe σ q.vs) H' s' ∧ tn i s'.heap ∧ (∀ b ∈ fp, H' b = none) ∧ W i n H') ?_ m0 ⟨0, H3, I4, st4, n3, w0⟩
    rintro n s5 ⟨i, H5, I5, st5, n5, w5⟩
    rcases turn i n H5 w5 with ⟨stop, q5⟩ | ⟨go, N1, hN1, step⟩
    · refine thnF (T.done (X.blk s3 H3 scope ce fp) rfl rfl rfl hc i [] s5 _ H5 (fun _ _ => False) I5 (fo I5 n5) st5 stop) fun r s6 ⟨hr, I6⟩ => ?_
      subst hr
      have I7 : L2.Inv X pins σ H5 s6 := I3.call' (ch := fp) I6.os I6.base I6.hok I6.bare fun b hb => let z := (f3 b hb).1; ⟨z.2.2.2.1, z.2.1, z.2.2.2.2.1, z.2.2.2.2.2⟩
      have nC : H5 s3.heap.objs.size = none := by rw [← cl]; exact I6.free
      obtain ⟨m, hm, _⟩ := I6.loc
      have hm : s6.heap.Ns ce.locals m := hm
      exact back D _ s6 m H5 I7 q5 (by rw [cl] at hm; exact hm) (I3.fpOk (Nat.le_refl _) nC)
    · refine thnF (T.item (X.blk s3 H3 scope ce fp) rfl rfl rfl hc i [] s5 _ H5 (fun _ _ => False) I5 (fo I5 n5) st5 go) fun r s6 ⟨u, hr, k6⟩ => ?_
      subst hr
      refine thnF k6 fun _ s7 ⟨x, H7, I7, r7, y7, st7, n7⟩ => ?_
      have I7' := I7.pinned (fo I7 n7) (T.obj _ _ st7)
      have rg := pg.run _ s7 _ H7 x u _ I7' r7 (step x H7 y7)
      refine thnF rg fun _ s8 ⟨σ8, H8, I8, hw8, q8⟩ => ?_
      have rt := pt.run _ s8 σ8 H8 _ I8 q8
      refine thnF rt fun b s9 ⟨H9, I9, q9⟩ => ?_
      have fin : ∀ {vs' : List Nat} {s' : Shared} {H' : Hp}, (∀ i ∈ vs', i ∈ q.vs) → L2.Inv (X.blk s3 H3 scope ce fp) ([] ++ pinsAt fp s7.heap) (wipe σ8 vs') H' s' → N1 H' → ∃ m, m < n ∧ ∃ i H', L2.Inv (X.blk s3 H3 scope ce fp) [] (wipe σ q.vs) H' s' ∧ tn i s'.heap ∧ (∀ b ∈ fp, H' b = none) ∧ W i m H' := fun {vs' s' H'} hvs I' nx => by
        obtain ⟨m', hm, w'⟩ := hN1 H' nx
        obtain ⟨l1, l2⟩ := wipe_more hw8 hvs
        have pin' : ∀ b ∈ fp, ∀ o, s7.heap.get? b = some o → s'.heap.get? b = some o ∧ H' b = none := fun b hb o e => by
          obtain ⟨z1, z2, _⟩ := I'.pin (b, o) (List.mem_append_right _ (List.mem_append_right _ (mem_pinsAt hb e)))
          exact ⟨z1, z2⟩
        refine ⟨m', hm, i + 1, H', (I'.unpinned (pins := [])).weak l1 l2, T.keep _ _ _ st7 fun b hb o e => (pin' b hb o e).1, fun b hb => ?_, w'⟩
        obtain ⟨o, e, _⟩ := T.obj _ _ st7 b hb
        exact (pin' b hb o e).2
      cases b with
      | false => exact fin (vs' := []) (fun _ z => by cases z) I9 q9
      | true =>
        refine thnF (out_ok (Y := (X.blk s3 H3 scope ce fp)) hc yx pe cs 1 rfl pc hn.2 _ s9 σ8 H9 N1 I9 q9) fun _ s10 ⟨H10, I10, nx⟩ => ?_
        exact fin hn.1 I10 nx
  exact codeAny_compStart_list loop (T.self X.A 0 _ _ _ st4 loop)
/-- as a value -/
theorem pe_lcN {elt : Expr} {q : Cl} {cs : List Cl} {scope : Scope} {own : List (Str × Nat)} {pos : Pos} {te : TE}
    (hc : X.calm = true) (hN : X.N.Nodup) (hi : PI X q.tg q.iter q.wi) (ok : BlkOk X.N X.env.scope scope own) (hv : q.vs = own.map (·.2)) (hf : ∀ x, foldedSetIterable q.iter X.env x = pure x) (hn : Nest (q :: cs))
    (hq : ∀ s H C cl fp, PG (Blk X s H scope C cl fp) q.tg q.g ∧ PTs (Blk X s H scope C cl fp) q.ifs q.tt ∧ ∀ z ∈ cs, ClOk (Blk X s H scope C cl fp) z) (he : ∀ s H C cl fp, PE (Blk X s H scope C cl fp) elt te) :
    PE X (.ListComp elt ((q :: cs).map Cl.py) scope pos) (tLcN te q cs) := by
  refine ⟨fun pins s σ H Q I h => ?_⟩
  rw [eval_ListComp]
  refine lcN_core hc hN I hi ok hv hf hn hq he h fun D C s' m H' I' z hm f => ⟨m, hm, fun h'' sb => ?_⟩
  obtain ⟨g0, g1, g2, g3, g4, g5⟩ := f
  exact ⟨.ref D, H', I'.turned (t' := s'.toks) (fun b o hb e => (sb.2 b hb).trans e) g0 g1 g3 g4 g5, rfl, z⟩
end
end Dm

/-! The D machine: comprehensions of any number of clauses, by data. -/
namespace Dm
open PySem L2 PyProof.Rows
structure SC where
  tg : Expr
  iter : Expr
  ifs : List Expr
  dc : DC
def SC.cl (c : Cc) (q : SC) : Cl := ⟨q.tg, q.iter, q.ifs, tI c q.dc.mi, tG c q.dc.t, tBo c q.dc.mt, q.dc.vs⟩
def DNest : List SC → Prop
  | [] => True
  | q :: r => (∀ i ∈ q.dc.t.ids, i ∈ q.dc.vs) ∧ (match r with | [] => True | z :: _ => ∀ i ∈ z.dc.vs, i ∈ q.dc.vs) ∧ DNest r
def dvs : List SC → List Nat
  | [] => []
  | q :: _ => q.dc.vs
/-- all but the list that grows -/
def StepD (A : Addr) (w : Wm) (H : Hp) (w' : Wm) (H' : Hp) : Prop := ∀ a o, a ≠ A → H a = some o → (w a = .no ∨ w a = .out) → H' a = some o ∧ w' a = w a
section
variable {c : Cc} {w w' : Wm} {H H' : Hp} {rs : List V} {s : St} {σ : L2.St} {A : Addr}
theorem StepD.refl : StepD A w H w H := fun _ _ _ h _ => ⟨h, rfl⟩
theorem Step.d (h : Step w H w' H') : StepD A w H w' H' := fun a o _ h1 k => h a o h1 k
theorem StepD.trans {w2 : Wm} {H2 : Hp} (a : StepD A w H w' H') (b : StepD A w' H' w2 H2) : StepD A w H w2 H2 := fun x o n h k => by
  obtain ⟨h1, k1⟩ := a x o n h k
  obtain ⟨h2, k2⟩ := b x o n h1 (by rw [k1]; exact k)
  exact ⟨h2, k2.trans k1⟩
theorem StepD.n (h : StepD A w H w' H') (hw : w A = .out) : StepN w H w' H' := fun a o h1 k => by
  have ne : a ≠ A := fun z => by rw [z, hw] at k; cases k
  obtain ⟨z1, z2⟩ := h a o ne h1 (.inl k)
  exact ⟨z1, z2.trans k⟩
theorem StepD.grow {o' : HO} : StepD A w H w (upd H A o') := fun a o ne h _ => ⟨by rw [upd_ne ne]; exact h, rfl⟩
theorem wipeL_two {L : List Slot} {vs vs' : List Nat} (h : ∀ i ∈ vs', i ∈ vs) : wipeL (wipeL L vs') vs = wipeL L vs := by
  refine List.ext_getElem? fun i => ?_
  by_cases hi : i ∈ vs
  · by_cases hl : i < L.length
    · rw [wipeL_in hi hl, wipeL_in hi (by rw [wipeL_length]; exact hl)]
    · rw [List.getElem?_eq_none (by rw [wipeL_length, wipeL_length]; omega), List.getElem?_eq_none (by rw [wipeL_length]; omega)]
  · rw [wipeL_out hi, wipeL_out hi, wipeL_out fun z => hi (h i z)]
theorem wipe_two {σ : L2.St} {vs vs' : List Nat} (h : ∀ i ∈ vs', i ∈ vs) : wipe (wipe σ vs') vs = wipe σ vs := by
  refine List.ext_getElem? fun i => ?_
  by_cases hi : i ∈ vs
  · by_cases hl : i < σ.length
    · rw [wipe_in' hi hl, wipe_in' hi (by rw [wipe_length]; exact hl)]
    · rw [List.getElem?_eq_none (by rw [wipe_length, wipe_length]; omega), List.getElem?_eq_none (by rw [wipe_length]; omega)]
  · rw [wipe_out' hi, wipe_out' hi, wipe_out' fun z => hi (h i z)]
theorem Rel.rewipe {s1 : St} {σ4 : L2.St} {vs vs' : List Nat} (R : Rel c w rs { s1 with L := wipeL s1.L vs' } (L2.wipe σ4 vs') H) (h : ∀ i ∈ vs', i ∈ vs) (e : L2.wipe σ4 vs = L2.wipe σ vs) : Rel c w rs { s1 with L := wipeL s1.L vs } (L2.wipe σ vs) H := by
  have := R.wipe vs
  rw [wipe_two h, e] at this
  have e2 : ({ ({ s1 with L := wipeL s1.L vs' } : St) with L := wipeL ({ s1 with L := wipeL s1.L vs' } : St).L vs } : St) = { s1 with L := wipeL s1.L vs } := by
    show St.mk (wipeL (wipeL s1.L vs') vs) s1.S = _
    rw [wipeL_two h]
  rw [e2] at this
  exact this
/-- what stands behind the emission of ys -/
def Ends1 (c : Cc) (A : Addr) (w : Wm) (rs : List V) (H : Hp) (vs : List Nat) (acc : List V) (σ : L2.St) (s' : St) (ys : List D) (Nx : Hp → Prop) : Prop :=
  ∀ H' w' ac, Rel c w' rs { s' with L := wipeL s'.L vs } (wipe σ vs) H' → H' A = some (.lst (acc ++ ac)) → w' A = .out → IsAll c w' H' ac ys → StepD A w H w' H' → Nx H'
/-- a loop's turns -/
theorem i_loop {me : M D} {q : SC} {r : List SC} (hid : ∀ i ∈ q.dc.t.ids, i ∈ q.dc.vs) (hvs : ∀ i ∈ dvs r, i ∈ q.dc.vs) {J : L2.It} {items ys : List D} {s1 s2 : St} {acc : List V} {Nx : Hp → Prop}
    (ih : ∀ {w : Wm} {H : Hp} {s s' : St} {σ : L2.St} {acc : List V} {ys : List D} {Nx : Hp → Prop}, Rel c w rs s σ H → H A = some (.lst acc) → w A = .out → denDC me (r.map (·.dc)) s = some (ys, s') → acc.length + ys.length ≤ sizeLine → Ends1 c A w rs H (dvs r) acc σ s' ys Nx → tOut (tE c me) A (r.map (SC.cl c)) σ H Nx)
    (R : Rel c w rs s1 σ H) (hA : H A = some (.lst acc)) (hw : w A = .out) (wd : WalkD c J items w H) (e : runItems q.dc.vs q.dc.t (bnd q.dc.mt fun b => if b then denDC me (r.map (·.dc)) else ret []) items s1 = some (ys, s2)) (hz : acc.length + ys.length ≤ sizeLine) (k : Ends1 c A w rs H q.dc.vs acc σ s2 ys Nx) :
    ∃ W : Nat → Nat → Hp → Prop, (∃ m, W 0 m H) ∧ ∀ j m H, W j m H → (J.stop j H ∧ Nx H) ∨ (J.go j H ∧ ∃ N1 : Hp → Prop, (∀ H', N1 H' → ∃ m', m' < m ∧ W (j + 1) m' H') ∧ ∀ x H', J.yld j H x H' → tG c q.dc.t x (wipe σ q.dc.vs) H' fun σ3 H5 => wipe σ3 q.dc.vs = wipe σ q.dc.vs ∧ tBo c q.dc.mt σ3 H5 fun b H6 => if b = true then tOut (tE c me) A (r.map (SC.cl c)) σ3 H6 N1 else N1 H6) := by
  let body : M (List D) := bnd q.dc.mt fun b => if b then denDC me (r.map (·.dc)) else ret []
  let Wp : Nat → Hp → Prop := fun j H' => j ≤ items.length ∧ ∃ w2 sI ac as, Rel c w2 rs { sI with L := wipeL sI.L q.dc.vs } (wipe σ q.dc.vs) H' ∧ H' A = some (.lst (acc ++ ac)) ∧ w2 A = .out ∧ IsAll c w2 H' ac as ∧ StepD A w H w2 H' ∧ ∃ zs, runItems q.dc.vs q.dc.t body (items.drop j) sI = some (zs, s2) ∧ as ++ zs = ys
  refine ⟨fun j m H' => m = items.length - j ∧ Wp j H', ⟨items.length, by simp, Nat.zero_le _, w, s1, [], [], R.wipe _, by simpa using hA, hw, .nil, StepD.refl, ys, by simpa using e, rfl⟩, ?_⟩
  rintro j m H2 ⟨rfl, hj, w2, sI, ac, as, R2, hac, hw2, ra, st2, zs, ez, ed⟩
  obtain ⟨wstop, wgo⟩ := wd w2 H2 (st2.n hw)
  by_cases hlt : j < items.length
  · refine .inr ?_
    have eg : items[j]? = some items[j] := by simp [hlt]
    obtain ⟨g1, g2⟩ := wgo j _ eg
    refine ⟨g1, Wp (j + 1), fun H' hW => ⟨items.length - (j + 1), by omega, rfl, hW⟩, fun x H3 y => ?_⟩
    obtain ⟨w3, sm3, q3⟩ := g2 x H3 y
    rw [List.drop_eq_getElem_cons hlt, runItems] at ez
    obtain ⟨_, t1, ez1, ez⟩ := bnd_some.mp ez
    cases ez1
    obtain ⟨_, t2, ez2, ez⟩ := bnd_some.mp ez
    obtain ⟨ys3, t3, ez3, ez⟩ := bnd_some.mp ez
    obtain ⟨zs', t4, ez4, ez⟩ := bnd_some.mp ez
    cases ret_some.mp ez
    obtain ⟨b, t5, eb, ey⟩ := bnd_some.mp ez3
    have R3 := R2.ext sm3
    have acc3 := (sm3 _ _ hac).1
    have out3 : w3 A = .out := (sm3 _ _ hac).2.trans hw2
    refine ⟨w3, rs, _, _, t2, R3, q3, ez2, fun σ4 R4 ag => ⟨?_, ?_⟩⟩
    · rw [wipe_of_agree ag hid, wipe_wipe]
    have ew : wipe σ4 q.dc.vs = wipe σ q.dc.vs := by rw [wipe_of_agree ag hid, wipe_wipe]
    refine ⟨w3, rs, t2, b, t5, R4, eb, fun H5 w5 R5 st5 => ?_⟩
    have so5 : Step w2 H2 w5 H5 := sm3.step.trans st5
    have hA5 : H5 A = some (.lst (acc ++ ac)) ∧ w5 A = .out := by
      have := st5 A _ acc3 (.inr out3)
      exact ⟨this.1, this.2.trans out3⟩
    dsimp only
    split at ey
    · rename_i hb
      rw [if_pos hb]
      refine ih R5 hA5.1 hA5.2 ey ?_ fun H6 w6 ac6 R6 h6 o6 ra6 st6 => ?_
      · have := ra.length
        have h2 : (as ++ (ys3 ++ zs')).length = ys.length := by rw [ed]
        rw [List.length_append, List.length_append] at h2
        rw [List.length_append]
        omega
      · refine ⟨hlt, w6, t3, ac ++ ac6, as ++ ys3, R6.rewipe hvs ew, by rw [← List.append_assoc]; exact h6, o6, ?_, (st2.trans so5.d).trans st6, zs', ez4, by rw [← ed]; simp⟩
        exact ((ra.step so5).stepN (st6.n hA5.2)).append ra6
    · rename_i hb
      rw [if_neg hb]
      cases ret_some.mp ey
      have R6 := R5.wipe q.dc.vs
      rw [ew] at R6
      exact ⟨hlt, w5, _, ac, as, R6, hA5.1, hA5.2, ra.step so5, st2.trans so5.d, zs', ez4, by rw [← ed]; rfl⟩
  · have ej : j = items.length := by omega
    subst ej
    refine .inl ⟨wstop, ?_⟩
    rw [List.drop_length, runItems] at ez
    cases ret_some.mp ez
    rw [List.append_nil] at ed
    subst ed
    exact k H2 w2 ac R2 hac hw2 ra st2
theorem i_out {me : M D} : ∀ (cs : List SC), DNest cs → ∀ {w : Wm} {H : Hp} {s s' : St} {σ : L2.St} {acc : List V} {ys : List D} {Nx : Hp → Prop}, Rel c w rs s σ H → H A = some (.lst acc) → w A = .out → denDC me (cs.map (·.dc)) s = some (ys, s') → acc.length + ys.length ≤ sizeLine →
    Ends1 c A w rs H (dvs cs) acc σ s' ys Nx → tOut (tE c me) A (cs.map (SC.cl c)) σ H Nx
  | [], _, w, H, s, s', σ, acc, ys, Nx, R, hA, hw, e, hz, k => by
    rw [List.map_nil, denDC] at e
    obtain ⟨d, s1, e1, e2⟩ := bnd_some.mp e
    cases ret_some.mp e2
    refine ⟨w, rs, s, d, _, R, e1, fun v H1 w1 R1 q st => ?_⟩
    have hA1 := st A _ hA (.inr hw)
    have o1 : w1 A = .out := hA1.2.trans hw
    refine ⟨acc, hA1.1, by simp at hz; omega, ?_⟩
    refine k _ w1 [v] (R1.grow o1) upd_same o1 (.cons (q.stepN (StepN.grow o1)) .nil) (st.d.trans StepD.grow)
  | q :: cs, hn, w, H, s, s', σ, acc, ys, Nx, R, hA, hw, e, hz, k => by
    rw [List.map_cons, denDC] at e
    obtain ⟨items, s1, e1, e2⟩ := bnd_some.mp e
    refine ⟨w, rs, s, items, s1, R, e1, fun J H1 w1 R1 wd st1 => ?_⟩
    have hA1 := st1 A _ hA (.inr hw)
    have hvs : ∀ i ∈ dvs cs, i ∈ q.dc.vs := by
      cases cs with
      | nil => intro i hi; cases hi
      | cons z cs => exact hn.2.1
    exact i_loop hn.1 hvs (fun R hA hw e hz k => i_out cs hn.2.2 R hA hw e hz k) R1 hA1.1 (hA1.2.trans hw) wd e2 hz fun H' w' ac R' h' o' ra st' => k H' w' ac R' h' o' ra (st1.d.trans st')
theorem i_compN {me : M D} {q : SC} {cs : List SC} (hn : DNest (q :: cs)) :
    ∀ σ H Q, tE c (bnd q.dc.mi fun items => inScope q.dc.vs (runItems q.dc.vs q.dc.t (bnd q.dc.mt fun b => if b then denDC me (cs.map (·.dc)) else ret []) items)) σ H Q → tLcN (tE c me) (q.cl c) (cs.map (SC.cl c)) σ H Q := fun σ H Q ⟨w, rs, s, d, s', R, e, k⟩ => by
  obtain ⟨items, s1, e1, e2⟩ := bnd_some.mp e
  unfold inScope at e2
  split at e2
  · rename_i ds s2 e3
    split at e2
    · rename_i hz
      cases e2
      refine ⟨w, rs, s, items, s1, R, e1, fun J H1 w1 R1 wd st1 A hA => ?_⟩
      have hvs : ∀ i ∈ dvs cs, i ∈ q.dc.vs := by
        cases cs with
        | nil => intro i hi; cases hi
        | cons z cs => exact hn.2.1
      have sm : Same2 w1 H1 (wout w1 A) (upd H1 A (.lst [])) := Same2.wout hA
      refine i_loop (A := A) hn.1 hvs (fun R hA hw e hz k => i_out cs hn.2.2 R hA hw e hz k) (R1.ext sm) upd_same wout_same (wd.stepN sm.step.n) e3 (by simpa using hz) fun H2 w2 ac R2 hac o2 ra st2 => ?_
      rw [List.nil_append] at hac
      have dn : StepN w2 H2 (wnew w2 A) H2 := StepN.done o2
      have st3 : Step w1 H1 (wnew w2 A) H2 := fun a o h kk => by
        have ne : a ≠ A := ne_of_none h hA
        obtain ⟨z1, z2⟩ := sm a o h
        obtain ⟨z3, z4⟩ := st2 a o ne z1 (by rw [z2]; exact kk)
        refine ⟨z3, ?_⟩
        unfold wnew
        rw [if_neg ne]
        exact z4.trans z2
      exact k _ H2 (wnew w2 A) (R1.back (R2.done o2) st3) (.lst ⟨by unfold wnew; rw [if_pos rfl], hac⟩ (ra.stepN dn)) (st1.trans st3)
    · cases e2
  · cases e2
end
end Dm

/-! The D machine: calls; all expressions. -/
namespace Dm
open PySem L2 PyProof.Rows

def row : List Nat → Ow := fun p => .res p
def CellsOk (c : Cc) (w : Wm) (rs : List V) (S : List OD) (H : Hp) : Prop := ∀ (j : Nat) (o : OD), S[j]? = some o → ∃ v, rs[j]? = some v ∧ IsO c w H (cow j) v o
def ArgOk (c : Cc) (w : Wm) (rs : List V) (H : Hp) (v : V) : Slot → Prop
  | .val d => Is c w H v d
  | .ref j => rs[j]? = some v
  | _ => False
inductive ArgsOk (c : Cc) (w : Wm) (rs : List V) (H : Hp) : List V → List Slot → Prop
  | nil : ArgsOk c w rs H [] []
  | cons {v : V} {vs : List V} {x : Slot} {xs : List Slot} : ArgOk c w rs H v x → ArgsOk c w rs H vs xs → ArgsOk c w rs H (v :: vs) (x :: xs)
section
variable {X : Cx} {c : Cc} {e : Expr} {es : List Expr} {w w' : Wm} {rs : List V} {s : St} {σ : L2.St} {H H' : Hp}
theorem ArgOk.stepN {v : V} {x : Slot} (st : StepN w H w' H') (h : ArgOk c w rs H v x) : ArgOk c w' rs H' v x := by
  cases x with
  | val d => exact Is.stepN st h
  | ref j => exact h
  | no => exact h
  | own => exact h
theorem ArgsOk.stepN (st : StepN w H w' H') : ∀ {vs : List V} {xs : List Slot}, ArgsOk c w rs H vs xs → ArgsOk c w' rs H' vs xs
  | _, _, .nil => .nil
  | _, _, .cons h r => .cons (h.stepN st) (ArgsOk.stepN st r)
theorem ArgsOk.length : ∀ {vs : List V} {xs : List Slot}, ArgsOk c w rs H vs xs → vs.length = xs.length
  | _, _, .nil => rfl
  | _, _, .cons _ r => by rw [List.length_cons, List.length_cons, ArgsOk.length r]
/-- a def's promise -/
def spD (c : Cc) (n : Nat) (call : CallF) (f : Nat) : Sp := fun vs H Q _ => ∃ w rs S sl o S', sl.length = n ∧ ArgsOk c w rs H vs sl ∧ CellsOk c w rs S H ∧ (∀ a i p, w a ≠ .slot i p) ∧ call f sl S = some (o, S') ∧
  ∀ v H' w', CellsOk c w' rs S' H' → IsO c w' H' row v o → Step w H w' H' → Q v H'
/-- the callee's view -/
def wcall (w : Wm) : Wm := fun a => match w a with | .slot _ _ => .out | .res _ => .out | x => x
/-- behind the call -/
def wback (w wx : Wm) : Wm := fun a => match wx a with | .out => w a | .slot _ _ => .no | .res _ => .no | x => x
theorem wcall_no {a : Addr} (h : w a = .no) : wcall w a = .no := by unfold wcall; rw [h]
theorem step_call : Step w H (wcall w) H := fun a o h k => ⟨h, by
  unfold wcall
  rcases k with k | k <;> rw [k]⟩
theorem Rel.cells (R : Rel c w rs s σ H) : CellsOk c (wcall w) rs s.S H := fun j o e => by
  obtain ⟨v, e1, q⟩ := R.st j o e
  exact ⟨v, e1, q.keepN step_call.n fun a o p h k => ⟨h, by unfold wcall; rw [k]; rfl⟩⟩
theorem wback_step {wx : Wm} (st : Step (wcall w) H wx H') : Step w H (wback w wx) H' := fun a o h k => by
  have z := st a o h
  unfold wcall at z
  unfold wback
  rcases k with k | k
  · rw [k] at z
    obtain ⟨z1, z2⟩ := z (.inl rfl)
    rw [z2, k]
    exact ⟨z1, rfl⟩
  · rw [k] at z
    obtain ⟨z1, z2⟩ := z (.inr rfl)
    rw [z2, k]
    exact ⟨z1, rfl⟩
theorem wback_no {wx : Wm} {a : Addr} (h : wx a = .no) : wback w wx a = .no := by unfold wback; rw [h]
/-- a call's own addresses: the caller's slots stay -/
theorem Rel.call {wx : Wm} {S' : List OD} (R : Rel c w rs s σ H) (st : Step (wcall w) H wx H') (cs : CellsOk c wx rs S' H') : Rel c (wback w wx) rs { s with S := S' } σ H' := by
  have sb := wback_step st
  refine ⟨R.len, fun i y x e1 e2 => ?_, fun j o e => ?_⟩
  · have q := R.sl i y x e1 e2
    cases y with
    | no => trivial
    | val d => obtain ⟨v, e, q⟩ := q; exact ⟨v, e, q.step sb⟩
    | own o =>
      obtain ⟨v, e, q⟩ := q
      refine ⟨v, e, q.keep sb fun a o p h k => ?_⟩
      have z := st a o h
      unfold wcall at z
      rw [k] at z
      obtain ⟨z1, z2⟩ := z (.inr rfl)
      exact ⟨z1, by unfold wback; rw [z2]; rfl⟩
    | ref j => exact q
  · obtain ⟨v, e1, q⟩ := cs j o e
    exact ⟨v, e1, q.keepN (fun a o h k => ⟨h, wback_no k⟩) fun a o p h k => ⟨h, by unfold wback; rw [k]; rfl⟩⟩
theorem Rel.callG {wx w' : Wm} {S' : List OD} (R : Rel c w rs s σ H) (st : Step (wcall w) H wx H') (cs : CellsOk c wx rs S' H') (h1 : ∀ a, wx a = .no → w' a = .no) (h2 : ∀ a, wx a = .out → w' a = w a) (h3 : ∀ a j p, wx a = .cell j p → w' a = .cell j p) :
    Rel c w' rs { s with S := S' } σ H' ∧ Step w H w' H' := by
  have sb : Step w H w' H' := fun a o h k => by
    have z := st a o h
    unfold wcall at z
    rcases k with k | k
    · rw [k] at z
      obtain ⟨z1, z2⟩ := z (.inl rfl)
      exact ⟨z1, by rw [h1 a z2, k]⟩
    · rw [k] at z
      obtain ⟨z1, z2⟩ := z (.inr rfl)
      exact ⟨z1, h2 a z2⟩
  refine ⟨⟨R.len, fun i y x e1 e2 => ?_, fun j o e => ?_⟩, sb⟩
  · have q := R.sl i y x e1 e2
    cases y with
    | no => trivial
    | val d => obtain ⟨v, e, q⟩ := q; exact ⟨v, e, q.step sb⟩
    | own o =>
      obtain ⟨v, e, q⟩ := q
      refine ⟨v, e, q.keep sb fun a o p h k => ?_⟩
      have z := st a o h
      unfold wcall at z
      rw [k] at z
      obtain ⟨z1, z2⟩ := z (.inr rfl)
      exact ⟨z1, h2 a z2⟩
    | ref j => exact q
  · obtain ⟨v, e1, q⟩ := cs j o e
    exact ⟨v, e1, q.keepN (fun a o h k => ⟨h, h1 a k⟩) fun a o p h k => ⟨h, by rw [k]; exact h3 a _ _ k⟩⟩
def tAs (c : Cc) (m : M (List Slot)) : TA := fun σ H Q => ∃ w rs s sl s', Rel c w rs s σ H ∧ m s = some (sl, s') ∧ ∀ vs H' w', Rel c w' rs s' σ H' → ArgsOk c w' rs H' vs sl → Step w H w' H' → Q vs H'
theorem i_call {n f : Nat} {call : CallF} {m : M (List Slot)} {E : XK} {Γ : Env} (hΓ : Γ.call = call) (hn : ∀ s sl s', m s = some (sl, s') → sl.length = n) :
    ∀ σ H Q, tE c (bnd m fun sl => bnd (doCall Γ f sl) fun o => ofO o.leafD) σ H Q → tCall (spD c n call f) [] E (tAs c m) σ H Q := fun σ H Q ⟨w, rs, s, d, s', R, e, k⟩ => by
  subst hΓ
  obtain ⟨sl, s1, e1, e⟩ := bnd_some.mp e
  obtain ⟨o, s2, e2, e⟩ := bnd_some.mp e
  obtain ⟨z, ez, ez'⟩ := ofO_some.mp e
  injection ez' with z1 z2; subst z1 z2
  unfold doCall at e2
  split at e2
  · rename_i o' S' ec
    cases e2
    refine ⟨w, rs, s, sl, s1, R, e1, fun vs H1 w1 R1 q1 st1 => ?_⟩
    dsimp only
    rw [List.append_nil]
    refine ⟨wcall w1, rs, s1.S, sl, o, S', hn _ _ _ e1, q1.stepN step_call.n, R1.cells, fun a i p z => ?_, ec, fun v H2 wx cs q st => ?_⟩
    · unfold wcall at z
      split at z <;> first | cases z | (rename_i h1 h2; exact h1 i p z)
    · cases o <;> simp only [OD.leafD] at ez <;> cases ez
      cases q with
      | leaf q =>
        have stb : Step w1 H1 (wback w1 wx) H2 := wback_step st
        exact k v H2 _ (R1.call st cs) (q.stepN fun a o h z => ⟨h, wback_no z⟩) (st1.trans stb)
  · cases e2
theorem d_anil : PA X [] (tAs c (ret [])) := pimpA pa_nil fun σ H Q ⟨w, rs, s, d, s', R, e, k⟩ => by
  cases ret_some.mp e
  exact k [] H w R .nil (Step.refl _ _)
theorem i_aval {m : M D} {ms : M (List Slot)} : ∀ σ H Q, tAs c (bnd m fun d => bnd ms fun sl => ret (.val d :: sl)) σ H Q → tCons (tE c m) (tAs c ms) σ H Q := fun σ H Q ⟨w, rs, s, d, s', R, e, k⟩ => by
  obtain ⟨d1, s1, e1, e⟩ := bnd_some.mp e
  obtain ⟨d2, s2, e2, e⟩ := bnd_some.mp e
  cases ret_some.mp e
  refine ⟨w, rs, s, d1, s1, R, e1, fun v1 H1 w1 R1 q1 st1 => ?_⟩
  refine ⟨w1, rs, s1, d2, _, R1, e2, fun v2 H2 w2 R2 q2 st2 => ?_⟩
  exact k _ H2 w2 R2 (.cons (show Is c w2 H2 v1 d1 from q1.step st2) q2) (st1.trans st2)
def shareM (i : Nat) : M Slot := fun s => match s.L[i]? with
      | some (.val d) => some (Slot.val d, s)
      | some (.ref j) => some (.ref j, s)
      | _ => none
theorem i_ashare {i : Nat} {ms : M (List Slot)} : ∀ σ H Q, tAs c (bnd (shareM i) fun x => bnd ms fun sl => ret (x :: sl)) σ H Q → tCons (tVar i) (tAs c ms) σ H Q := fun σ H Q ⟨w, rs, s, d, s', R, e, k⟩ => by
  obtain ⟨d1, s1, e1, e⟩ := bnd_some.mp e
  obtain ⟨d2, s2, e2, e⟩ := bnd_some.mp e
  cases ret_some.mp e
  unfold shareM at e1
  split at e1
  · rename_i d' ed
    cases e1
    obtain ⟨v, hv, q⟩ := R.val ed
    exact ⟨v, hv, w, rs, _, d2, _, R, e2, fun v2 H2 w2 R2 q2 st2 => k _ H2 w2 R2 (.cons (show Is c w2 H2 v _ from q.step st2) q2) st2⟩
  · rename_i j ed
    cases e1
    obtain ⟨x, hv, v, rfl, q⟩ := R.at ed
    exact ⟨v, hv, w, rs, _, d2, _, R, e2, fun v2 H2 w2 R2 q2 st2 => k _ H2 w2 R2 (.cons (show rs[j]? = some v from q) q2) st2⟩
  · cases e1
/-! ### a further cell -/
/-- behind a call with a further cell, the m-th -/
def wback2 (w wy : Wm) (m : Nat) : Wm := fun a => match wy a with
  | .out => w a
  | .cell j p => if j < m then .cell j p else .no
  | _ => .no
theorem wback2_no {wy : Wm} {m : Nat} {a : Addr} (h : wy a = .no) : wback2 w wy m a = .no := by unfold wback2; rw [h]
theorem rs_take {S : List OD} (cs : CellsOk c w rs S H) {v : V} : (rs.take S.length ++ [v])[S.length]? = some v ∧ ∀ j, j < S.length → (rs.take S.length ++ [v])[j]? = rs[j]? := by
  have hl : S.length ≤ rs.length := by
    cases hS : S.length with
    | zero => exact Nat.zero_le _
    | succ k =>
      have hk : k < S.length := by omega
      obtain ⟨u, e, _⟩ := cs k S[k] (by simp [hk])
      have := (List.getElem?_eq_some_iff.mp e).1
      omega
  have ht : (rs.take S.length).length = S.length := by rw [List.length_take]; omega
  refine ⟨by rw [List.getElem?_append_right (by omega), ht]; simp, fun j hj => ?_⟩
  rw [List.getElem?_append_left (by omega), List.getElem?_take]
  simp [hj]
/-- the cells with one more -/
theorem cells_more {S : List OD} {o : OD} {v : V} (cs : CellsOk c w rs S H) (q : IsO c w H (cow S.length) v o) : CellsOk c w (rs.take S.length ++ [v]) (S ++ [o]) H := fun j o' e => by
  obtain ⟨r1, r2⟩ := rs_take (v := v) cs
  by_cases hj : j < S.length
  · rw [List.getElem?_append_left hj] at e
    obtain ⟨u, e1, q1⟩ := cs j o' e
    exact ⟨u, by rw [r2 j hj]; exact e1, q1⟩
  · rw [List.getElem?_append_right (by omega)] at e
    have : j = S.length := by
      have := (List.getElem?_eq_some_iff.mp e).1
      simp at this
      omega
    subst this
    simp at e
    subst e
    exact ⟨v, r1, q⟩
/-- the caller's own, behind it -/
theorem Rel.back2 {w2 wy : Wm} {H2 Hy : Hp} {S' : List OD} {v : V} (R : Rel c w rs s σ H) (st : ∀ a o, H a = some o → (w a = .no ∨ w a = .out ∨ ∃ i p, w a = .slot i p) → H2 a = some o ∧ w2 a = wcall w a) (sty : Step w2 H2 wy Hy) (cs0 : ∃ w3 H3 S3, S3.length = s.S.length ∧ CellsOk c w3 rs S3 H3) (cs : CellsOk c wy (rs.take s.S.length ++ [v]) S' Hy) :
    Rel c (wback2 w wy s.S.length) rs { s with S := S'.take s.S.length } σ Hy ∧ Step w H (wback2 w wy s.S.length) Hy := by
  have key : ∀ a o, H a = some o → (w a = .no ∨ w a = .out ∨ ∃ i p, w a = .slot i p) → Hy a = some o ∧ wback2 w wy s.S.length a = w a := fun a o h k => by
    obtain ⟨z1, z2⟩ := st a o h k
    unfold wcall at z2
    unfold wback2
    rcases k with k | k | ⟨i, p, k⟩
    · rw [k] at z2
      obtain ⟨y1, y2⟩ := sty a o z1 (.inl z2)
      rw [y2, z2, k]; exact ⟨y1, rfl⟩
    · rw [k] at z2
      obtain ⟨y1, y2⟩ := sty a o z1 (.inr z2)
      rw [y2, z2, k]; exact ⟨y1, rfl⟩
    · rw [k] at z2
      obtain ⟨y1, y2⟩ := sty a o z1 (.inr z2)
      rw [y2, z2, k]; exact ⟨y1, rfl⟩
  have sb : Step w H (wback2 w wy s.S.length) Hy := fun a o h k => key a o h (k.elim .inl fun z => .inr (.inl z))
  refine ⟨⟨R.len, fun i y x e1 e2 => ?_, fun j o e => ?_⟩, sb⟩
  · have q := R.sl i y x e1 e2
    cases y with
    | no => trivial
    | val d => obtain ⟨v, e, q⟩ := q; exact ⟨v, e, q.step sb⟩
    | own o =>
      obtain ⟨v, e, q⟩ := q
      exact ⟨v, e, q.keep sb fun a o p h k => key a o h (.inr (.inr ⟨i, p, k⟩))⟩
    | ref j => exact q
  · have hj : j < s.S.length := by
      have := (List.getElem?_eq_some_iff.mp e).1
      rw [List.length_take] at this
      omega
    have e' : S'[j]? = some o := by
      rw [List.getElem?_take] at e
      simpa [hj] using e
    obtain ⟨u, e1, q⟩ := cs j o e'
    obtain ⟨w3, H3, S3, hl, c3⟩ := cs0
    have r2 := (rs_take (v := v) c3).2 j (by omega)
    rw [hl] at r2
    rw [r2] at e1
    exact ⟨u, e1, q.keepN (fun a o h k => ⟨h, wback2_no k⟩) fun a o p h k => ⟨h, by unfold wback2; rw [k]; simp [cow, hj]⟩⟩
theorem args_more {S : List OD} {v : V} (cs : CellsOk c w rs S H) : ∀ {vs : List V} {sl : List Slot}, ArgsOk c w' rs H' vs sl → refsIn S.length sl = true → ArgsOk c w' (rs.take S.length ++ [v]) H' vs sl
  | _, _, .nil, _ => .nil
  | _, x :: _, .cons h r, k => by
    unfold refsIn at k
    rw [List.all_cons, Bool.and_eq_true] at k
    refine .cons ?_ (args_more cs r k.2)
    cases x with
    | val d => exact h
    | ref j =>
      have hj : j < S.length := by simpa using k.1
      show (rs.take S.length ++ [v])[j]? = some _
      rw [(rs_take cs).2 j hj]
      exact h
    | no => exact h
    | own => exact h
theorem i_new {ni f k : Nat} {E : XK} {m : M (List Slot)} {Γ : Env} (hn : ∀ s sl s', m s = some (sl, s') → sl.length + 1 = ni) :
    ∀ σ H Q, tE c (bnd m fun sl => make Γ k f sl) σ H Q → tMake (c.cl k) (spD c ni Γ.call f) [] E (tAs c m) σ H Q := fun σ H Q ⟨w, rs, s, d, s', R, e, kq⟩ => by
  obtain ⟨sl, s1, e1, e2⟩ := bnd_some.mp e
  unfold make at e2
  split at e2
  · rename_i hrf
    split at e2
    · rename_i S' ec
      split at e2
      · rename_i k' fs eo
        cases e2
        refine ⟨w, rs, s, sl, s1, R, e1, fun vs H1 w1 R1 q1 st1 x dx hx hdx hne => ?_⟩
        rw [List.append_nil]
        have tr : ∀ a o, H1 a = some o → a ≠ x ∧ a ≠ dx := fun a o h => ⟨ne_of_none h hx, ne_of_none h hdx⟩
        let w2 : Wm := fun a => if a = x then .cell s1.S.length [] else if a = dx then .no else wcall w1 a
        have w2x : w2 x = .cell s1.S.length [] := if_pos rfl
        have w2n : ∀ a, a ≠ x → a ≠ dx → w2 a = wcall w1 a := fun a h1 h2 => by
          show (if a = x then _ else if a = dx then _ else _) = _
          rw [if_neg h1, if_neg h2]
        have ext : ∀ a o, H1 a = some o → (upd (upd H1 dx (.own x)) x (.ins (c.cl k) dx [])) a = some o ∧ w2 a = wcall w1 a := fun a o h => by
          obtain ⟨n1, n2⟩ := tr a o h
          exact ⟨by rw [upd_ne n1, upd_ne n2]; exact h, w2n a n1 n2⟩
        have st2 : Step (wcall w1) H1 w2 (upd (upd H1 dx (.own x)) x (.ins (c.cl k) dx [])) := fun a o h _ => ext a o h
        have cs1 : CellsOk c (wcall w1) rs s1.S H1 := R1.cells
        have cs2 : CellsOk c w2 rs s1.S (upd (upd H1 dx (.own x)) x (.ins (c.cl k) dx [])) := fun j o ej => by
          obtain ⟨v, e3, q⟩ := cs1 j o ej
          exact ⟨v, e3, q.keepN st2.n fun a o p h _ => ext a o h⟩
        have newO : IsO c w2 (upd (upd H1 dx (.own x)) x (.ins (c.cl k) dx [])) (cow s1.S.length) (.ref x) (.oobj k []) := .oobj (vs := []) (dx := dx) w2x (by rw [List.zip_nil_right]; exact upd_same) (Nat.zero_le _) .nil
        refine ⟨w2, rs.take s1.S.length ++ [.ref x], s1.S ++ [.oobj k []], .ref s1.S.length :: sl, .leaf .non, S', by rw [List.length_cons]; exact hn _ _ _ e1, .cons (by show (rs.take s1.S.length ++ [V.ref x])[s1.S.length]? = some (V.ref x); exact (rs_take cs1).1) (args_more cs1 ((q1.stepN step_call.n).stepN st2.n) hrf), cells_more cs2 newO, fun a i p z => ?_, ec, fun v H' wy cs q st => ?_⟩
        · show False
          have : (if a = x then Ow.cell s1.S.length [] else if a = dx then .no else wcall w1 a) = .slot i p := z
          split at this
          · cases this
          · split at this
            · cases this
            · unfold wcall at this
              split at this <;> first | cases this | (rename_i h1 h2; exact h1 i p this)
        · cases q with
          | leaf q =>
            cases q
            obtain ⟨Rb, sb⟩ := R1.back2 (fun a o h _ => ext a o h) st ⟨_, _, s1.S, rfl, cs1⟩ cs
            obtain ⟨u, eu, qu⟩ := cs _ _ eo
            rw [(rs_take cs1).1] at eu
            cases eu
            refine ⟨rfl, kq _ _ _ Rb ?_ (st1.trans sb)⟩
            cases qu with
            | oobj h1 h2 h3 r =>
              exact .obj (by unfold wback2; rw [h1]; simp [cow]) h2 h3 (r.stepN fun a o h z => ⟨h, wback2_no z⟩)
      · cases e2
    · cases e2
  · cases e2
/-- f(g(..)): the new list of g is lent to f -/
theorem i_callT {ng f g : Nat} {E : XK} {m : M (List Slot)} {Γ : Env} (hn : ∀ s sl s', m s = some (sl, s') → sl.length = ng) :
    ∀ σ H Q, tE c (bnd m fun sl => bnd (doCall Γ g sl) fun o => lend Γ f o) σ H Q → tCall (spD c 1 Γ.call f) [] E (tCons (tCall (spD c ng Γ.call g) [] E (tAs c m)) tNil) σ H Q := fun σ H Q ⟨w, rs, s, d, s', R, e, kq⟩ => by
  obtain ⟨sl, s1, e1, e2⟩ := bnd_some.mp e
  obtain ⟨o, s2, e3, e4⟩ := bnd_some.mp e2
  unfold doCall at e3
  split at e3
  · rename_i o' S1 ec
    cases e3
    unfold lend at e4
    split at e4
    · rename_i ds
      split at e4
      · rename_i d' S' ef
        cases e4
        have ef : Γ.call f [.ref S1.length] (S1 ++ [.fl ds]) = some (.leaf d, S') := ef
        refine ⟨w, rs, s, sl, s1, R, e1, fun vs H1 w1 R1 q1 st1 => ?_⟩
        dsimp only
        rw [List.append_nil]
        refine ⟨wcall w1, rs, s1.S, sl, _, S1, hn _ _ _ e1, q1.stepN step_call.n, R1.cells, fun a i p z => ?_, ec, fun v Hx wx cs q st => ?_⟩
        · unfold wcall at z
          split at z <;> first | cases z | (rename_i h1 h2; exact h1 i p z)
        · show spD c 1 Γ.call f ([v] ++ []) Hx Q E
          rw [List.append_nil]
          let wr : Wm := fun a => match wx a with | .out => w1 a | .slot _ _ => .no | x => x
          have wrd : ∀ a, wr a = (match wx a with | .out => w1 a | .slot _ _ => .no | x => x) := fun _ => rfl
          obtain ⟨R2, sR⟩ := R1.callG (w' := wr) st cs (fun a h => by rw [wrd, h]) (fun a h => by rw [wrd, h]) (fun a j p h => by rw [wrd, h])
          let w2 : Wm := fun a => match wr a with | .res p => .cell S1.length p | .slot _ _ => .out | x => x
          have w2d : ∀ a, w2 a = (match wr a with | .res p => .cell S1.length p | .slot _ _ => .out | x => x) := fun _ => rfl
          have cR : CellsOk c wr rs S1 Hx := R2.st
          have st2N : StepN wr Hx w2 Hx := fun a o h k => ⟨h, by rw [w2d, k]⟩
          have cs2 : CellsOk c w2 rs S1 Hx := fun j o ej => by
            obtain ⟨u, e5, q5⟩ := cR j o ej
            exact ⟨u, e5, q5.keepN st2N fun a o p h k => ⟨h, by rw [w2d, k]; rfl⟩⟩
          have newO : IsO c w2 Hx (cow S1.length) v (.fl ds) := by
            cases q with
            | fl h1 h2 r =>
              refine .fl ?_ h2 ?_
              · rw [w2d, wrd, h1]; rfl
              · exact r.stepN fun a o h k => ⟨h, by rw [w2d, wrd, k]⟩
          refine ⟨w2, rs.take S1.length ++ [v], S1 ++ [.fl ds], [.ref S1.length], .leaf d, S', rfl, .cons (by show (rs.take S1.length ++ [v])[S1.length]? = some v; exact (rs_take cR).1) .nil, cells_more cs2 newO, fun a i p z => ?_, ef, fun v2 Hy wy csy qy sty => ?_⟩
          · rw [w2d] at z
            split at z <;> first | cases z | (rename_i h1 h2; exact h2 i p z)
          · obtain ⟨Rb, sb⟩ := R2.back2 (w2 := w2) (H2 := Hx) (fun a o h k => ⟨h, by
              rw [w2d]
              unfold wcall
              rcases k with k | k | ⟨i, p, k⟩ <;> rw [k]⟩) sty ⟨_, _, S1, rfl, cR⟩ csy
            cases qy with
            | leaf qy => exact kq v2 Hy _ Rb (qy.stepN fun a o h z => ⟨h, wback2_no z⟩) ((st1.trans sR).trans sb)
      · cases e4
    · cases e4
  · cases e3
end
end Dm

/-! The D machine: lists that change. -/
namespace Dm
open PySem L2 PyProof.Rows PySem.AutoSeq1
set_option maxRecDepth 8000 in
theorem ext_tup (l : Addr) (items : Array Value) (n : Nat) (b : Addr) (items2 : Array Value) (n2 : Nat) (dd : Option Addr) (sl : Array (Option Value)) (hs0 : ¬(!items.isEmpty && Builtin.List.listTooLong (items.size + items2.size)) = true) (hs1 : items.size ≤ sizeLine) (hs2 : items.size + items2.size ≤ sizeLine + 1) :
    Meets (Builtin.«list.extend» ⟨[.ref l, .ref b], []⟩) (fun _ R s => s.heap.get? l = some { cls := .type "list", dict := none, data := .seq items n, slots := #[] } ∧ s.heap.get? b = some { cls := .type "tuple", dict := dd, data := .seq items2 n2, slots := sl } ∧ R (.ok (.ret Value.none)) { s with heap := s.heap.update l (Obj.mapSeq fun x => x ++ items2), toks := s.toks }) :=
  .of_wp fun prog w A R s h => by
    obtain ⟨hp, g, d, tk, os⟩ := s; obtain ⟨hl, hb, h⟩ := h; have f1 := idx_int; have f2 := AutoSeq1.sub_tuple_tuple; have f3 := AutoSeq1.sub_list_list; have f4 := AutoSeq1.sub_tuple_list; have f5 := AutoSeq1.sub_list_tuple;
    have hz' : (items ++ items2).size ≤ sizeLine + 1 := by rw [Array.size_append]; exact hs2
    wp_walk using (wpAny_updateSeq hl rfl (hz := hs1) (_hz' := hz')), wpAny_loadPart' hl, wpAny_loadPart' hb; exact ⟨_, rfl, h⟩
section
variable {X : Cx}
def rExtT : V → List V → Hp → VK → Prop := fun x vs H Q => ∃ l b xs zs, x = .ref l ∧ vs = [.ref b] ∧ H l = some (.lst xs) ∧ H b = some (.tup zs) ∧ xs.length + zs.length ≤ sizeLine ∧ Q .non (upd H l (.lst (xs ++ zs)))
theorem mt_extT : MtM X "list.extend" rExtT := by
  intro pins s σ H x vs v us Q I rx rv h
  obtain ⟨l, b, xs, zs, rfl, rfl, hH, hB, hz, q⟩ := h
  cases rx
  obtain ⟨u, rfl, ru⟩ := rv.one
  cases ru
  obtain ⟨z, its, n, r, hl, e⟩ := I.lstM hH
  obtain ⟨its2, r2, ht, z2⟩ := I.tuple (SqT.of hB)
  obtain ⟨⟨oc, dd, od, sl⟩, e2, oc', n2, od'⟩ := ht
  simp only at oc' od'
  subst oc' od'
  have hl2 := r2.length
  have hsz : its.toArray.size + its2.toArray.size ≤ sizeLine := by rw [List.size_toArray, List.size_toArray]; omega
  have hlong : ¬ (!its.toArray.isEmpty && Builtin.List.listTooLong (its.toArray.size + its2.toArray.size)) = true := by
    rw [notLongL hsz, Bool.and_false]
    exact Bool.false_ne_true
  refine call_meets F.slot_list_extend ⟨_, e, rfl⟩ F.entry_list_extend (F.args_list_extend_2 _ _)
    (ext_tup l its.toArray n b its2.toArray n2 dd sl hlong (by rw [List.size_toArray]; omega) (by omega)) ⟨e, e2, ?_⟩
  refine ⟨.non, _, I.lset (its' := its ++ its2) hH e (by simp) (r.append r2) ?_, rfl, q⟩
  rw [List.length_append]
  omega
end
section
variable {X : Cx} {c : Cc} {e : Expr} {es : List Expr} {w w' : Wm} {rs : List V} {s s' : St} {σ : L2.St} {H H' : Hp}
/-- a list that a name owns, or a cell, is changed -/
theorem Rel.mut {j : Nat} {f : List D → Option (D × List D)} {d : D} (R : Rel c w rs s σ H) (h : mutF j f s = some (d, s')) :
    ∃ a vs ds ds', σ[j]? = some (some (.ref a)) ∧ H a = some (.lst vs) ∧ IsAll c w H vs ds ∧ f ds = some (d, ds') ∧
      ∀ vs', IsAll c w H vs' ds' → Rel c w rs s' σ (upd H a (.lst vs')) ∧ Step w H w (upd H a (.lst vs')) := by
  have gen : ∀ {a : Addr} {ow : Ow}, w a = ow → ow ≠ .no → ow ≠ .out → ∀ o, StepN w H w (upd H a o) ∧ Step w H w (upd H a o) ∧ ∀ b u, H b = some u → w b ≠ ow → (upd H a o) b = some u ∧ w b = w b := by
    intro a ow h1 h2 h3 o
    refine ⟨fun b u hb hw => ⟨?_, hw⟩, fun b u hb hw => ⟨?_, rfl⟩, fun b u hb hw => ⟨?_, rfl⟩⟩
    · rw [upd_ne]; exact hb
      intro z; rw [z, h1] at hw; exact h2 hw
    · rw [upd_ne]; exact hb
      intro z; rw [z, h1] at hw; exact hw.elim h2 h3
    · rw [upd_ne]; exact hb
      intro z; rw [z] at hw; exact hw h1
  unfold mutF at h
  split at h
  · rename_i ds e1
    split at h
    · rename_i d' ds' ef
      cases h
      obtain ⟨x, ex, v, rfl, q⟩ := R.at e1
      cases q with
      | fl h1 h2 r =>
        rename_i a vs
        refine ⟨a, vs, ds, ds', ex, h2, r, ef, fun vs' r' => ?_⟩
        obtain ⟨g1, g2, g3⟩ := gen h1 (by unfold sow; intro z; cases z) (by unfold sow; intro z; cases z) (.lst vs')
        refine ⟨⟨by simpa using R.len, fun i y x e3 e4 => ?_, fun k o e => ?_⟩, g2⟩
        · by_cases hi : i = j
          · subst hi
            simp only [List.getElem?_set_self (List.getElem?_eq_some_iff.mp e1).1] at e3
            cases e3
            rw [ex] at e4; cases e4
            exact ⟨_, rfl, .fl h1 upd_same (r'.stepN g1)⟩
          · simp only [List.getElem?_set_ne (Ne.symm hi)] at e3
            have z := R.sl i y x e3 e4
            cases y with
            | no => trivial
            | val d => obtain ⟨v, e, q⟩ := z; exact ⟨v, e, q.stepN g1⟩
            | own o =>
              obtain ⟨v, e, q⟩ := z
              refine ⟨v, e, q.keepN g1 fun b u p hb hw => g3 b u hb ?_⟩
              rw [hw]; unfold sow; intro z; injection z with z1 _; exact hi z1
            | ref k => exact z
        · obtain ⟨v, e5, q⟩ := R.st k o e
          refine ⟨v, e5, q.keepN g1 fun b u p hb hw => g3 b u hb ?_⟩
          rw [hw]; unfold sow cow; intro z; cases z
    · cases h
  · rename_i k e1
    split at h
    · rename_i ds e2
      split at h
      · rename_i d' ds' ef
        cases h
        obtain ⟨x, ex, v, rfl, ev⟩ := R.at e1
        obtain ⟨v', ev', q⟩ := R.st k _ e2
        rw [ev] at ev'; cases ev'
        cases q with
        | fl h1 h2 r =>
          rename_i a vs
          refine ⟨a, vs, ds, ds', ex, h2, r, ef, fun vs' r' => ?_⟩
          obtain ⟨g1, g2, g3⟩ := gen h1 (by unfold cow; intro z; cases z) (by unfold cow; intro z; cases z) (.lst vs')
          refine ⟨⟨R.len, fun i y x e3 e4 => ?_, fun k' o e => ?_⟩, g2⟩
          · have z := R.sl i y x e3 e4
            cases y with
            | no => trivial
            | val d => obtain ⟨v, e, q⟩ := z; exact ⟨v, e, q.stepN g1⟩
            | own o =>
              obtain ⟨v, e, q⟩ := z
              refine ⟨v, e, q.keepN g1 fun b u p hb hw => g3 b u hb ?_⟩
              rw [hw]; unfold sow cow; intro z; cases z
            | ref k => exact z
          · by_cases hk : k' = k
            · subst hk
              simp only [List.getElem?_set_self (List.getElem?_eq_some_iff.mp e2).1] at e
              cases e
              exact ⟨_, ev, .fl h1 upd_same (r'.stepN g1)⟩
            · simp only [List.getElem?_set_ne (Ne.symm hk)] at e
              obtain ⟨v, e5, q⟩ := R.st k' o e
              refine ⟨v, e5, q.keepN g1 fun b u p hb hw => g3 b u hb ?_⟩
              rw [hw]; unfold cow; intro z; injection z with z1 _; exact hk z1
      · cases h
    · cases h
  · cases h
/-- a method without, with an argument, by values -/
def MutR (c : Cc) (f : List D → Option (D × List D)) (r : V → Hp → VK → Prop) : Prop :=
  ∀ w H a vs ds d ds' (Q : VK), H a = some (.lst vs) → IsAll c w H vs ds → f ds = some (d, ds') → (∀ v vs', IsAll c w H vs' ds' → Is c w H v d → Q v (upd H a (.lst vs'))) → r (.ref a) H Q
theorem IsAll.eraseIdx : ∀ {vs : List V} {ds : List D} (n : Nat), IsAll c w H vs ds → IsAll c w H (vs.eraseIdx n) (ds.eraseIdx n)
  | _, _, _, .nil => .nil
  | _, _, 0, .cons h r => r
  | _, _, n + 1, .cons h r => .cons h (IsAll.eraseIdx n r)
theorem IsAll.set : ∀ {vs : List V} {ds : List D} (n : Nat) {v : V} {d : D}, Is c w H v d → IsAll c w H vs ds → IsAll c w H (vs.set n v) (ds.set n d)
  | _, _, _, _, _, _, .nil => .nil
  | _, _, 0, _, _, q, .cons h r => .cons q r
  | _, _, n + 1, _, _, q, .cons h r => .cons h (IsAll.set n q r)
theorem IsAll.dropLast {vs : List V} {ds : List D} (r : IsAll c w H vs ds) : IsAll c w H vs.dropLast ds.dropLast := by
  rw [List.dropLast_eq_take, List.dropLast_eq_take, r.length]
  exact r.take _
theorem IsAll.reverse : ∀ {vs : List V} {ds : List D}, IsAll c w H vs ds → IsAll c w H vs.reverse ds.reverse
  | _, _, .nil => .nil
  | _, _, .cons h r => by rw [List.reverse_cons, List.reverse_cons]; exact (IsAll.reverse r).append (.cons h .nil)
def rM0 (m : Mm) : V → List V → Hp → VK → Prop :=
  match m with
  | .pop => rPop
  | .clear => rClear
  | .reverse => rReverse
  | _ => fun _ _ _ _ => False
theorem mut_m0 (m : Mm) : MutR c (mm0 m) (fun x H Q => rM0 m x [] H Q) := by
  intro w H a vs ds d ds' Q h1 r e k
  unfold mm0 at e
  split at e
  · split at e
    · rename_i d1 e1
      cases e
      obtain ⟨v, e2, q⟩ := r.get e1
      exact ⟨a, vs, v, rfl, rfl, h1, by rw [r.length]; exact e2, k v _ r.dropLast q⟩
    · cases e
  · cases e
    exact ⟨a, vs, rfl, rfl, h1, k .non _ .nil .non⟩
  · cases e
    exact ⟨a, vs, rfl, rfl, h1, k .non _ r.reverse .non⟩
  · cases e
def rM1 (m : Mm) : V → List V → Hp → VK → Prop :=
  match m with
  | .append => rAppend
  | .extend => fun x vs H Q => rExtend x vs H Q ∨ rExtT x vs H Q
  | .pop => rPopAt
  | _ => fun _ _ _ _ => False
theorem mut_m1 (m : Mm) {x : D} {v : V} {w : Wm} {H : Hp} {a : Addr} {vs : List V} {ds ds' : List D} {d : D} {Q : VK} (hv : Is c w H v x) (h1 : H a = some (.lst vs)) (r : IsAll c w H vs ds) (e : mm1 m x ds = some (d, ds'))
    (k : ∀ v vs', IsAll c w H vs' ds' → Is c w H v d → Q v (upd H a (.lst vs'))) : rM1 m (.ref a) [v] H Q := by
  unfold mm1 at e
  split at e
  · split at e
    · rename_i hz
      cases e
      exact ⟨a, vs, v, rfl, rfl, h1, by rw [r.length]; exact hz, k .non _ (r.append (.cons hv .nil)) .non⟩
    · cases e
  · split at e
    · split at e
      · rename_i hz
        cases e
        cases hv with
        | lst h2 r2 => exact .inl ⟨a, _, vs, _, rfl, rfl, h1, h2.2, by rw [r.length, r2.length]; exact hz, k .non _ (r.append r2) .non⟩
      · cases e
    · split at e
      · rename_i hz
        cases e
        cases hv with
        | tup h2 r2 => exact .inr ⟨a, _, vs, _, rfl, rfl, h1, h2.2, by rw [r.length, r2.length]; exact hz, k .non _ (r.append r2) .non⟩
      · cases e
    · cases e
  · split at e
    · rename_i i
      split at e
      · rename_i hb
        split at e
        · rename_i kk e1
          split at e
          · rename_i d1 e2
            cases e
            cases hv
            obtain ⟨v, e3, q⟩ := r.get e2
            exact ⟨a, vs, i, kk, v, rfl, rfl, h1, hb.1, hb.2, by rw [r.length]; exact (ixN_seq e1).1, e3, k v _ (r.eraseIdx kk) q⟩
          · cases e
        · cases e
      · cases e
    · cases e
  · cases e
theorem MtM_or {id : String} {r r' : V → List V → Hp → VK → Prop} (h : MtM X id r) (h' : MtM X id r') : MtM X id (fun x vs H Q => r x vs H Q ∨ r' x vs H Q) := fun pins s σ H x vs v us Q I rx rv q => q.elim (h pins s σ H x vs v us Q I rx rv) (h' pins s σ H x vs v us Q I rx rv)
theorem tyV_ref {K : PySem.W.Frag} {H : Hp} {a : Addr} {vs : List V} (h : H a = some (.lst vs)) : tyV K "list" (.ref a) H := .inl ⟨rfl, vs, SqL.of h⟩
theorem Rel.peekLV {w : Wm} {rs : List V} {s s' : St} {σ : L2.St} {H : Hp} {i : Nat} {d : Unit} (R : Rel c w rs s σ H) (h : Dm.peekL i s = some (d, s')) : s' = s ∧ ∃ a vs, σ[i]? = some (some (.ref a)) ∧ H a = some (.lst vs) := by
  unfold Dm.peekL at h
  split at h
  · rename_i o e'
    cases h
    obtain ⟨v, kk, e2, q⟩ := R.peek e'
    cases q with
    | fl h1 h2 r => exact ⟨rfl, _, _, e2, h2⟩
  · cases h
theorem d_mth0 {m : Mm} {j : Nat} {x : Str} {p1 p2 p3 : Pos} (hK : X.K = c.K) (hm : (m = .pop ∨ m = .clear) ∨ m = .reverse) (h : PE X (.Name x p1) (tVar j)) (hl : (p2.endLine == p3.line) = true) :
    PE X (.Call (.Attribute (.Name x p1) m.nm p2) [] [] p3) (tE c (mutF j (mm0 m))) := by
  have pe : PE X (.Call (.Attribute (.Name x p1) m.nm p2) [] [] p3) (tBM0 X.K "list" (rM0 m) (tVar j)) := by
    rcases hm with (rfl | rfl) | rfl
    · exact pe_bm0 PySem.F.plainAttrs_list PySem.F.slot_list_pop PySem.F.type_list_pop mt_pop h rfl hl
    · exact pe_bm0 PySem.F.plainAttrs_list PySem.F.slot_list_clear PySem.F.type_list_clear mt_clear h rfl hl
    · exact pe_bm0 PySem.F.plainAttrs_list PySem.F.slot_list_reverse PySem.F.type_list_reverse mt_reverse h rfl hl
  refine pimp pe fun σ H Q ⟨w, rs, s, d, s', R, e, k⟩ => ?_
  obtain ⟨a, vs, ds, ds', hv, h1, r, ef, km⟩ := R.mut e
  refine ⟨_, hv, tyV_ref h1, mut_m0 m w H a vs ds d ds' Q h1 r ef fun v vs' r' q => ?_⟩
  obtain ⟨R', st⟩ := km vs' r'
  exact k v _ w R' (q.step st) st
theorem d_mth1 {m : Mm} {j : Nat} {x : Str} {p1 p2 p3 : Pos} {e : E} {me : M D} (hK : X.K = c.K) (hm : (m = .append ∨ m = .extend) ∨ m = .pop) (h : PE X (.Name x p1) (tVar j)) (hl : (p2.endLine == p3.line) = true) (he : PE X e.py (tE c me)) :
    PE X (.Call (.Attribute (.Name x p1) m.nm p2) [e.py] [] p3) (tE c (bnd (peekL j) fun _ => bnd me fun d => mutF j (mm1 m d))) := by
  have pa : PA X [e.py] (tCons (tE c me) tNil) := pa_cons he pa_nil (e.star _ _)
  have few : ((backTo p3 (starEach [e.py] X.env)).all (fun x => !x.1) && (backToKw p3 (keywordEach [] X.env)).all (fun x => x.1.isSome)
      && decide (([e.py] : List Expr).length + ([] : List Keyword).length + (if ([] : List Keyword).isEmpty then 0 else 1) < 30)) = true := by
    rw [e.star]; rfl
  have pe : PE X (.Call (.Attribute (.Name x p1) m.nm p2) [e.py] [] p3) (tBM X.K "list" (rM1 m) (tVar j) (tCons (tE c me) tNil)) := by
    rcases hm with (rfl | rfl) | rfl
    · exact pe_bm PySem.F.plainAttrs_list PySem.F.slot_list_append PySem.F.type_list_append mt_append h pa rfl few hl (e.star _ _) rfl
    · exact pe_bm PySem.F.plainAttrs_list PySem.F.slot_list_extend PySem.F.type_list_extend (MtM_or mt_extend mt_extT) h pa rfl few hl (e.star _ _) rfl
    · exact pe_bm PySem.F.plainAttrs_list PySem.F.slot_list_pop PySem.F.type_list_pop mt_popAt h pa rfl few hl (e.star _ _) rfl
  refine pimp pe fun σ H Q ⟨w, rs, s, d, s', R, e5, k⟩ => ?_
  obtain ⟨d0, s0, e0, e6⟩ := bnd_some.mp e5
  obtain ⟨d1, s1, e1, e7⟩ := bnd_some.mp e6
  obtain ⟨rfl, a0, vs0, hv, ha0⟩ := R.peekLV e0
  refine ⟨_, hv, tyV_ref ha0, w, rs, s0, d1, s1, R, e1, fun v1 H1 w1 R1 q1 st1 => ?_⟩
  · obtain ⟨a, vs, ds, ds', hv', h1, r, ef, km⟩ := R1.mut e7
    rw [hv] at hv'; cases hv'
    refine mut_m1 m q1 h1 r ef fun v2 vs' r' q => ?_
    obtain ⟨R', st⟩ := km vs' r'
    exact k v2 _ w1 R' (q.step st) (st1.trans st)
end
end Dm

/-! The D machine: sets of ints made of lists. -/
namespace Dm
open PySem L2 PyProof.Rows
abbrev ob0 (w : World) : Obj := { cls := .type "set", dict := none, data := .set #[] 0 (.fresh 0 0 (!w.params.followText "set-order")) }
section
variable {P : Program} {w : World} {A : Around} {E : Value → Shared → Prop} {s : Shared}
theorem set_of_list {l : Addr} {xs : Array Value} (ns : List Int) {Q : Value → Shared → Prop} (hh : A.handled = none) (hl : s.heap.IsList l xs) (hit : IntsAre xs.toList ns) (hb : ns.length + 1 < scanBound)
    (fin : ∀ (h' : Heap) (tk c : Nat), SetR w h' s.heap.objs.size (fun j => decide (j ∈ ns)) c → c ≤ ns.length → (∀ b o, s.heap.get? b = some o → h'.get? b = some o) → Q (.ref s.heap.objs.size) { s with heap := h', toks := tk }) :
    wpAny (model P w) A (call (.type "set") [.ref l]) Q E s := by
  have hn : xs.size = ns.length := by have q := IntsAre.length hit; rw [Array.length_toList] at q; exact q
  obtain ⟨c0, t0, m0⟩ := F.called_set.mro; have m1 := F.called_set.made; have m2 := F.called_set.sub
  refine wpAny_call (codeAny_of_tree ?_)
  show wpAny _ _ (callAny (.type "set") _) _ _ _
  refine wpAny_pure ⟨Code.quiet_builtin _ (by decide +kernel), codeAny_builtin F.entry_type_call ?_⟩
  rw [Around.under_plain (weight_type_call_type "set" [.ref l] []) rfl]
  have k1 := F.called_set.notType; have k2 := F.called_set.canCreate; have k3 := F.typeCall_set_1 (.ref l)
  repeat (any_goals (first | assumption | wp_step))
  refine codeAny_mono (code_set_led1 (.ref l) (E := E) (Q₁ := fun ob s₁ => ob = .ref s.heap.objs.size ∧ s₁ = { s with heap := s.heap.push (ob0 w) }) ⟨rfl, rfl⟩) fun r s₁ hr => ?_
  cases r with
  | error e => exact hr
  | ok fl => cases fl with
    | ret ob =>
      obtain ⟨rfl, rfl⟩ := hr
      have hS : (s.heap.push (ob0 w)).get? s.heap.objs.size = some (ob0 w) := Heap.get?_push_size _ rfl
      have hT : Shared.TypeIs { s with heap := s.heap.push (ob0 w) } (.ref s.heap.objs.size) "set" := ⟨_, hS, rfl⟩
      have i1 := F.called_set.init.lookup; have i2 := F.called_set.init.bind (.ref s.heap.objs.size)
      repeat (any_goals (first | assumption | wp_step))
      refine codeAny_mono (codeAny_call_builtin (R := wants (fun r s₂ => r = .none ∧ ∃ h' tk c, s₂ = { s with heap := h', toks := tk } ∧ SetR w h' s.heap.objs.size (fun j => decide (j ∈ ns)) c ∧ c ≤ ns.length ∧
          (∀ b o, s.heap.get? b = some o → h'.get? b = some o)) E) F.called_set.init.plain F.entry_set_init (check_set_init_1 hT ?_)) fun r2 s2 h2 => ?_
      · obtain ⟨ol, hol, hcl, nl, hsq⟩ := hl
        obtain ⟨ocls, odict, odata, oslots⟩ := ol
        simp only at hcl hsq
        subst hcl hsq
        have hol' : (s.heap.push (ob0 w)).get? l = some { cls := .type "list", dict := odict, data := .seq xs nl, slots := oslots } := Heap.get?_push_of_some _ hol
        have l1 := F.sub_list_set; have l2 := F.sub_list_frozenset
        have l3 : (Value.type "list" == Value.type "dict") = false := by decide
        have hl1 : (s.heap.push (ob0 w)).IsList l xs := ⟨_, hol', rfl, nl, rfl⟩
        unfold Builtin.«set.__init__» noKeywords Builtin.Frozenset.updateFrom
        generalize hPI : pyIter = PI
        wp_walk
        subst hPI
        refine wpAny_pyIter_list hl1 (wpAny_bind (wpAny_runValue ?_))
        have hlS : l < s.heap.objs.size := Heap.lt_size hol
        have h3 : A.in1.in1.in1.handled = none := by simp [hh]
        have hz1 : (s.heap.push (ob0 w)).objs.size = s.heap.objs.size + 1 := Heap.size_push ..
        have ne1 : l ≠ (s.heap.push (ob0 w)).objs.size := by rw [hz1]; exact Nat.ne_of_lt (Nat.lt_succ_of_lt hlS)
        have ne2 : s.heap.objs.size ∉ [(s.heap.push (ob0 w)).objs.size, l] := by
          rw [hz1]; simp only [List.mem_cons, List.not_mem_nil, or_false, not_or]
          exact ⟨Nat.ne_of_lt (Nat.lt_succ_self _), Nat.ne_of_gt hlS⟩
        have hval : ∀ (i : Nat) (v : Value), xs[i]? = some v → ∃ k t, ns[i]? = some k ∧ v = .int k t := fun i v hv => by
          have hi : i < ns.length := by rw [← hn]; exact (Array.getElem?_eq_some_iff.mp hv).1
          obtain ⟨t, e⟩ := IntsAre.int_at hit i v (by rw [Array.getElem?_toList]; exact hv)
          exact ⟨ns[i], t, List.getElem?_eq_getElem hi, by rw [e, List.getD_eq_getElem?_getD, List.getElem?_eq_getElem hi] <;> rfl⟩
        refine set_update_ints ((Walks.list h3 _ l ne1 xs).toS) s.heap.objs.size ne2 ns hn hb hval (xs.size - 0) 0 _ (by omega) (Nat.zero_le _)
          ⟨⟨_, Heap.get?_push_size _ rfl, rfl, rfl⟩, (hl1.push _)⟩ ?hS0 ?hR
        case hS0 => exact ⟨0, Nat.le_refl 0, setR_new_at (Heap.get?_push_of_some _ hS)⟩
        case hR =>
          intro s' c' hm hc' hS'
          obtain ⟨h', g2, d', tk', os'⟩ := s'
          have eg : g2 = s.gens := hm.gens
          have ed : d' = s.drawn := hm.drawn
          have eo : os' = s.os := hm.os
          subst eg ed eo
          show wpAny _ _ _ _ _ _
          refine wpAny_pure ?_
          show wpAny _ _ (PySem.ret Value.none) _ _ _
          rw [hn] at hc'
          refine wpAny_pure ⟨rfl, h', tk', c', rfl, hS', hc', fun b o e => ?_⟩
          have b0 : b < s.heap.objs.size := Heap.lt_size e
          exact hm.heap b o (by
            rw [hz1]; simp only [List.mem_cons, List.not_mem_nil, or_false, not_or]
            exact ⟨Nat.ne_of_lt b0, Nat.ne_of_lt (Nat.lt_succ_of_lt b0)⟩) (Heap.get?_push_of_some _ (Heap.get?_push_of_some _ e))
      · cases r2 with
        | error e => exact h2
        | ok fl2 => cases fl2 with
          | ret r =>
            obtain ⟨rfl, h', tk, c', rfl, hS', hc', hk'⟩ := h2
            repeat (any_goals (first | assumption | wp_step))
            exact fin _ _ _ hS' hc' hk'
          | _ => exact h2.elim
    | _ => exact hr.elim
end
end Dm

namespace Dm
open PySem L2 PyProof.Rows
section
variable {P : Program} {w : World} {A : Around} {E : Value → Shared → Prop} {s : Shared}
theorem entry_sne : entryFor table "set.__ne__" = some Builtin.«frozenset.__ne__» := entryFor_alias (id' := "frozenset.__ne__") (by kernel_rfl) rfl (by decide +kernel) (by kernel_rfl)
theorem any_set {a : Addr} {Q : Bool → Shared → Prop} (hT : s.TypeIs (.ref a) "set") (h : Q true s) : wpAny (model P w) A (Builtin.Frozenset.isAnySet (.ref a)) Q E s := by
  unfold Builtin.Frozenset.isAnySet
  refine wpAny_bind (wpAny_isInstance hT sub_set_self ?_)
  exact wpAny_pure h
theorem quiet_int {e : Int × Value} (g : GoodE e) : Builtin.Frozenset.quietEq e.2 = pure true := by
  obtain ⟨k, t, h, _⟩ := g
  rw [h]; rfl
theorem unseen {a b : Addr} {Q : List (Int × Value) → Shared → Prop} {o o' : Obj} {es es' : Array (Int × Value)} {ep ep' : Nat} {t t' : SetTable} (ho : s.heap.get? a = some o) (hd : o.data = .set es ep t) (hf : t.fits es.size = true) (ho' : s.heap.get? b = some o') (hd' : o'.data = .set es' ep' t') (hf' : t'.fits es'.size = true)
    (g : ∀ e ∈ es.toList, GoodE e) (g' : ∀ e ∈ es'.toList, GoodE e) (h : Q es.toList s) : wpAny (model P w) A (Builtin.Frozenset.walkUnseen a b) Q E s := by
  unfold Builtin.Frozenset.walkUnseen
  refine wpAny_bind (wpAny_setEntries_of ho hd hf ?_)
  refine wpAny_bind (wpAny_setEntries_of ho' hd' hf' ?_)
  refine wpAny_bind (wpAny_forIn_list (s := s) _ (fun l c s1 => s1 = s ∧ c = (none, PUnit.unit) ∧ ∀ e ∈ l, GoodE e) _ ?_ ?_ _ _ ⟨rfl, rfl, fun x hx => ?_⟩)
  · rintro ⟨h1, h2⟩ rest c s1 ⟨rfl, rfl, hg⟩
    dsimp only
    refine wpAny_bind (wpAny_of_eq (quiet_int (hg _ List.mem_cons_self)) ?_)
    exact wpAny_pure ⟨rfl, rfl, fun e he => hg e (List.mem_cons_of_mem _ he)⟩
  · rintro c s1 ⟨rfl, rfl, hg⟩
    exact wpAny_pure h
  · rcases List.mem_append.mp hx with z | z
    · exact g x z
    · exact g' x z
theorem sub_sets {a b : Addr} {S T : Int → Bool} {n m : Nat} {id : String} {Q : Bool → Shared → Prop} (R : SetR w s.heap a S n) (R' : SetR w s.heap b T m) (h : ∀ r : Bool, (r = true ↔ n ≤ m ∧ ∀ k, S k = true → T k = true) → Q r s) :
    wpAny (model P w) A (Builtin.Frozenset.subsetOf id a b) Q E s := by
  have hS' := R'.setOf (P := P)
  obtain ⟨o, es, ep, t, ho, hex, hd, g, nd, hm, hb, hf, hn, hr, hl⟩ := R
  obtain ⟨o', es', ep', t', ho', hex', hd', g', nd', hm', hb', hf', hn', hr', hl'⟩ := R'
  unfold Builtin.Frozenset.subsetOf Builtin.Frozenset.sizeOf
  refine wpAny_bind (wpAny_bind (wpAny_setEntries_of ho hd hf (wpAny_pure ?_)))
  refine wpAny_bind (wpAny_bind (wpAny_setEntries_of ho' hd' hf' (wpAny_pure ?_)))
  rw [hn, hn']
  split
  · rename_i hgt
    exact wpAny_pure (h false ⟨fun z => (nomatch z), fun z => absurd z.1 (by omega)⟩)
  · rename_i hle
    refine wpAny_bind (wpAny_setEpoch_of ho hd hf ?_)
    refine wpAny_bind (unseen ho hd hf ho' hd' hf' g g' ?_)
    refine wpAny_bind (wpAny_forIn_list (s := s) _ (fun l c s1 => s1 = s ∧ c = (none, PUnit.unit) ∧ (∀ e ∈ l, e ∈ es.toList) ∧ ((∀ k ∈ es.toList.map keyOf, T k = true) ↔ ∀ k ∈ l.map keyOf, T k = true)) _ ?_ ?_ es.toList _ ⟨rfl, rfl, fun _ z => z, Iff.rfl⟩)
    · rintro x rest c s1 ⟨rfl, rfl, hsub, hiff⟩
      obtain ⟨hx, vx⟩ := x
      obtain ⟨k, tk, e1, e2⟩ := g _ (hsub _ List.mem_cons_self)
      simp only at e1 e2
      subst e1 e2
      dsimp only
      refine wpAny_bind (wpAny_holding (wpAny_setFind_of (knd := intKind P w) (k := k) (intKind_is _ _ _ _) rfl hS' fun r hr => ?_))
      cases r with
      | none =>
        have hk : T k = false := by rw [← hr]; rfl
        refine wpAny_pure ?_
        refine wpAny_pure (h false ?_)
        constructor
        · intro z; cases z
        · intro z
          have := z.2 k ((hm k).mpr (List.mem_map.mpr ⟨_, hsub _ List.mem_cons_self, rfl⟩))
          rw [hk] at this; cases this
      | some i =>
        have hk : T k = true := by rw [← hr]; rfl
        show wpAny _ _ (Builtin.Frozenset.unchanged _ _ _ >>= _) _ _ _
        unfold Builtin.Frozenset.unchanged
        refine wpAny_bind (wpAny_bind (wpAny_setEpoch_of ho hd hf ?_))
        rw [if_neg (by simp)]
        refine wpAny_pure (wpAny_pure ⟨rfl, rfl, fun e he => hsub e (List.mem_cons_of_mem _ he), hiff.trans ?_⟩)
        constructor
        · intro z q hq; exact z q (List.mem_cons_of_mem _ hq)
        · intro z q hq
          rcases List.mem_cons.mp hq with e | e
          · rw [e]; exact hk
          · exact z q e
    · rintro c s1 ⟨rfl, rfl, hsub, hiff⟩
      refine wpAny_pure (h true ?_)
      refine ⟨fun _ => ⟨by omega, fun k hk => hiff.mpr (fun _ z => by cases z) k ((hm k).mp hk)⟩, fun _ => rfl⟩
theorem sup_of_len : ∀ (l l' : List Int), l.Nodup → (∀ k ∈ l, k ∈ l') → l'.length ≤ l.length → ∀ k ∈ l', k ∈ l
  | [], l', _, _, h, k, hk => by
    have : l' = [] := List.eq_nil_of_length_eq_zero (by simpa using h)
    rw [this] at hk; cases hk
  | x :: l, l', nd, hs, h, k, hk => by
    obtain ⟨d1, d2⟩ := List.nodup_cons.mp nd
    have hx : x ∈ l' := hs x List.mem_cons_self
    by_cases e : k = x
    · rw [e]; exact List.mem_cons_self
    · refine List.mem_cons_of_mem _ (sup_of_len l (l'.erase x) d2 (fun q hq => ?_) ?_ k ((List.mem_erase_of_ne e).mpr hk))
      · exact (List.mem_erase_of_ne (fun z : q = x => d1 (z ▸ hq))).mpr (hs q (List.mem_cons_of_mem _ hq))
      · rw [List.length_erase_of_mem hx]
        rw [List.length_cons] at h
        omega
/-- n members each: as many, and all of the one in the other, is the same -/
theorem sub_card {S T : Int → Bool} {l l' : List Int} (n1 : l.Nodup) (h1 : ∀ k, S k = true ↔ k ∈ l) (h2 : ∀ k, T k = true ↔ k ∈ l') (hn : l.length = l'.length) (hs : ∀ k, S k = true → T k = true) : ∀ k, S k = T k := fun k => by
  refine Bool.eq_iff_iff.mpr ⟨hs k, fun z => ?_⟩
  exact (h1 k).mpr (sup_of_len l l' n1 (fun q hq => (h2 q).mp (hs q ((h1 q).mpr hq))) (by omega) k ((h2 k).mp z))
theorem card_same {S T : Int → Bool} {l l' : List Int} (n1 : l.Nodup) (n2 : l'.Nodup) (h1 : ∀ k, S k = true ↔ k ∈ l) (h2 : ∀ k, T k = true ↔ k ∈ l') (hs : ∀ k, S k = T k) : l.length = l'.length :=
  ((List.perm_ext_iff_of_nodup n1 n2).mpr fun k => by rw [← h1, ← h2, hs]).length_eq
theorem call_sne {a b : Addr} {S T : Int → Bool} {n m : Nat} {Q : Value → Shared → Prop} (R : SetR w s.heap a S n) (R' : SetR w s.heap b T m) (h : ∀ r : Bool, (r = true ↔ ¬ ∀ k, S k = T k) → Q (.bool r) s) :
    wpAny (model P w) A (call (.builtin "set.__ne__") [.ref a, .ref b]) Q E s := by
  have hT : s.TypeIs (.ref a) "set" := (R.setOf (P := P)).typeIs
  have hT' : s.TypeIs (.ref b) "set" := (R'.setOf (P := P)).typeIs
  refine wpAny_call_entry F.slot_set_ne hT entry_sne ?_ (F.args_set_ne_2 _ _)
  unfold Builtin.«frozenset.__ne__»
  refine wpAny_bind (m := Builtin.Frozenset.slot1 "__ne__" _) (wpAny_of_eq (a := (.ref a, .ref b)) (by rfl) ?_)
  dsimp only
  refine wpAny_bind (any_set hT' ?_)
  have R1 := R; have R2 := R'
  obtain ⟨o, es, ep, t, ho, hex, hd, g, nd, hm, hb, hf, hn, hr, hl⟩ := R
  obtain ⟨o', es', ep', t', ho', hex', hd', g', nd', hm', hb', hf', hn', hr', hl'⟩ := R'
  rw [if_neg (by decide)]
  refine wpAny_bind (m := Builtin.Frozenset.addrOf _) (wpAny_of_eq (a := a) rfl ?_)
  refine wpAny_bind (m := Builtin.Frozenset.addrOf _) (wpAny_of_eq (a := b) rfl ?_)
  refine wpAny_bind (m := Builtin.Frozenset.sizeOf a) ?_
  unfold Builtin.Frozenset.sizeOf
  refine wpAny_bind (wpAny_setEntries_of ho hd hf (wpAny_pure ?_))
  refine wpAny_bind (wpAny_bind (wpAny_setEntries_of ho' hd' hf' (wpAny_pure ?_)))
  have l1 : (es.toList.map keyOf).length = n := by rw [List.length_map, Array.length_toList]; exact hn
  have l2 : (es'.toList.map keyOf).length = m := by rw [List.length_map, Array.length_toList]; exact hn'
  rw [hn, hn']
  by_cases he : n = m
  · refine wpAny_bind (m := if (n != m) = true then _ else _) ?_
    rw [if_neg (by simp [he])]
    refine wpAny_bind (m := isInstance _ _ <&&> _) (wpAny_bind (wpAny_isInstance hT F.sub_set_frozenset (wpAny_pure ?_)))
    rw [if_neg (by decide)]
    refine sub_sets R1 R2 fun r hr => wpAny_pure ⟨_, rfl, h _ ?_⟩
    rw [Bool.not_eq_true', ← Bool.not_eq_true, hr]
    constructor
    · intro z q; exact z ⟨by omega, fun k hk => by rw [← q k]; exact hk⟩
    · intro z q; exact z (sub_card nd hm hm' (by omega) q.2)
  · refine wpAny_bind (m := if (n != m) = true then _ else _) ?_
    rw [if_pos (by simp [he])]
    refine wpAny_pure (wpAny_pure ⟨_, rfl, h true ⟨fun _ q => he ?_, fun _ => rfl⟩⟩)
    rw [← l1, ← l2]
    exact card_same nd nd' hm hm' q
end
end Dm

/-! The D machine: sets of ints, index, slices, own len and ==. -/
namespace Dm
open PySem L2 PyProof.Rows

/-! ### sets of ints -/
theorem insI_mem {x k : Int} : ∀ {l : List Int}, k ∈ insI x l ↔ k = x ∨ k ∈ l
  | [] => by simp [insI]
  | y :: l => by
    unfold insI
    split
    · simp
    · split
      · rename_i h; subst h; simp
      · rw [List.mem_cons, insI_mem, List.mem_cons]
        constructor
        · rintro (h | h | h)
          · exact .inr (.inl h)
          · exact .inl h
          · exact .inr (.inr h)
        · rintro (h | h | h)
          · exact .inr (.inl h)
          · exact .inl h
          · exact .inr (.inr h)
theorem ssI_mem {k : Int} : ∀ {l : List Int}, k ∈ ssI l ↔ k ∈ l
  | [] => Iff.rfl
  | x :: l => by rw [ssI, insI_mem, ssI_mem, List.mem_cons]
theorem insI_sorted {x : Int} : ∀ {l : List Int}, l.Pairwise (· < ·) → (insI x l).Pairwise (· < ·)
  | [], _ => by simp [insI]
  | y :: l, h => by
    obtain ⟨h1, h2⟩ := List.pairwise_cons.mp h
    unfold insI
    split
    · rename_i hx
      refine List.pairwise_cons.mpr ⟨fun z hz => ?_, h⟩
      rcases List.mem_cons.mp hz with e | e
      · rw [e]; exact hx
      · have := h1 z e; omega
    · split
      · exact h
      · rename_i h3 h4
        refine List.pairwise_cons.mpr ⟨fun z hz => ?_, insI_sorted h2⟩
        rcases insI_mem.mp hz with e | e
        · rw [e]; omega
        · exact h1 z e
theorem ssI_sorted : ∀ l : List Int, (ssI l).Pairwise (· < ·)
  | [] => .nil
  | x :: l => insI_sorted (ssI_sorted l)
theorem sorted_unique : ∀ {l l' : List Int}, l.Pairwise (· < ·) → l'.Pairwise (· < ·) → (∀ k, k ∈ l ↔ k ∈ l') → l = l'
  | [], [], _, _, _ => rfl
  | [], y :: l', _, _, h => by have := (h y).mpr List.mem_cons_self; cases this
  | x :: l, [], _, _, h => by have := (h x).mp List.mem_cons_self; cases this
  | x :: l, y :: l', h1, h2, h => by
    obtain ⟨a1, a2⟩ := List.pairwise_cons.mp h1
    obtain ⟨b1, b2⟩ := List.pairwise_cons.mp h2
    have exy : x = y := by
      rcases List.mem_cons.mp ((h x).mp List.mem_cons_self) with e | e
      · exact e
      · rcases List.mem_cons.mp ((h y).mpr List.mem_cons_self) with e' | e'
        · exact e'.symm
        · have := b1 x e; have := a1 y e'; omega
    subst exy
    rw [sorted_unique a2 b2 fun k => ?_]
    constructor
    · intro hk
      rcases List.mem_cons.mp ((h k).mp (List.mem_cons_of_mem _ hk)) with e | e
      · have := a1 k hk; omega
      · exact e
    · intro hk
      rcases List.mem_cons.mp ((h k).mpr (List.mem_cons_of_mem _ hk)) with e | e
      · have := b1 k hk; omega
      · exact e
def rMkSet (K : PySem.W.Frag) (w : World) : List V → Hp → VK → Prop := fun xs H Q => ∃ (l : Addr) (ns : List Int), xs = [.ref l] ∧ SqL K H l (ns.map V.int) ∧ ns.length < 64 ∧
  ∀ p n, H p = none → n ≤ ns.length → Q (.ref p) (upd H p (SetO w p (fun j => decide (j ∈ ns)) n))
section
variable {X : Cx} {c : Cc} {e : Expr} {es : List Expr}
theorem cr_setL (hc : X.calm = true) : CallR X (.type "set") (rMkSet X.K X.w) := by
  intro pins s σ H xs us Q I r h
  obtain ⟨l, ns, rfl, hq, h64, q⟩ := h
  rw [Vals.ref1 r]
  obtain ⟨its, rv, pl, hz⟩ := I.list hq
  refine set_of_list ns (I.ok.hd hc) pl.isList (by simpa using intsAre_of rv) (by have : scanBound = 4096 := rfl; omega) fun h' tk n R hn hk => ?_
  have hp : H s.heap.objs.size = none := I.hok.fresh (Nat.le_refl _)
  exact ⟨.ref _, upd H s.heap.objs.size (SetO X.w s.heap.objs.size (fun j => decide (j ∈ ns)) n), I.laid (t' := tk) hk (Nat.le_refl _) (setO_new R), rfl, q _ _ hp hn⟩
def rSNe (w : World) : R2 := fun x y H Q => ∃ (a b : Addr) (S T : Int → Bool) (n m : Nat), x = .ref a ∧ y = .ref b ∧ H a = some (SetO w a S n) ∧ H b = some (SetO w b T m) ∧ ∀ r : Bool, (r = true ↔ ¬ ∀ k, S k = T k) → Q (.bl r) H
theorem op_sne (hu : X.A.units + 65 < cLine) : OpR X (compareOp .NotEq) (rSNe X.w) := by
  intro pins s σ H x y v u Q I rx ry h
  obtain ⟨a, b, S, T, n, m, rfl, rfl, ha, hb, q⟩ := h
  cases rx; cases ry
  have R := setO_get I ha
  have R' := setO_get I hb
  show wpAny (model X.prog X.w) X.A (richCompare .NotEq (.ref a) (.ref b)) (EP X pins σ Q) X.xe s
  refine wpAny_richCompare_same_room (R.setOf (P := X.prog)).typeIs (R'.setOf (P := X.prog)).typeIs F.slot_set_ne ?_ (by omega)
  exact call_sne R R' fun r hr => ⟨(by intro z; cases z), V.bl r, H, I, rfl, q r hr⟩
theorem op1_ss {w0 : World} : Op1 c (Is c) ssD (fun x H Q => rMkSet c.K w0 [x] H fun y H2 => rSortedSet w0 [y] H2 Q) := by
  intro w H x d1 d Q h1 e k
  unfold ssD at e
  split at e
  · rename_i xs
    split at e
    · rename_i ns ens
      split at e
      · rename_i hl
        cases e
        have := allI_some ens
        subst this
        cases h1 with
        | lst h r =>
          have := r.ints
          subst this
          refine ⟨_, ns, rfl, h.sq, hl, fun p n hp hn => ⟨p, _, n, rfl, upd_same, by omega, fun ms p' hs hm hlen hp' => ?_⟩⟩
          have e2 : ms = ssI ns := sorted_unique hs (ssI_sorted ns) fun k => by rw [hm, ssI_mem]; simp
          subst e2
          have hp2 : upd H p (SetO w0 p (fun j => decide (j ∈ ns)) n) p' = none := hp'
          have sm1 : Same2 w H (wnew w p) (upd H p (SetO w0 p (fun j => decide (j ∈ ns)) n)) := Same2.new hp
          have sm2 : Same2 (wnew w p) (upd H p (SetO w0 p (fun j => decide (j ∈ ns)) n)) (wnew (wnew w p) p') (upd (upd H p (SetO w0 p (fun j => decide (j ∈ ns)) n)) p' (.lst ((ssI ns).map V.int))) := Same2.new hp2
          refine k _ _ (wnew (wnew w p) p') (fun a o ha => ?_) ?_
          · obtain ⟨z1, z2⟩ := sm1 a o ha
            obtain ⟨z3, z4⟩ := sm2 a o z1
            exact ⟨z3, z4.trans z2⟩
          · have ia : ∀ ms : List Int, IsAll c (wnew w p) (upd H p (SetO w0 p (fun j => decide (j ∈ ns)) n)) (ms.map V.int) (ms.map D.int) := fun ms => by
              induction ms with
              | nil => exact .nil
              | cons z ms ih => exact .cons (.int _) ih
            exact Is.newL (ia _) hp2
      · cases e
    · cases e
  · cases e
theorem i_sne {w0 : World} {m1 m2 : M D} : ∀ σ H Q, tE c (bnd m1 fun x => bnd m2 fun y => ofO (sneD x y)) σ H Q →
    tOp (rSNe w0) (tCB (rMkSet c.K w0) (tCons (tE c m1) tNil)) (tCB (rMkSet c.K w0) (tCons (tE c m2) tNil)) σ H Q := fun σ H Q ⟨w, rs, s, d, s', R, e, k⟩ => by
  obtain ⟨d1, s1, e1, e5⟩ := bnd_some.mp e
  obtain ⟨d2, s2, e2, e6⟩ := bnd_some.mp e5
  obtain ⟨z, ez, ez'⟩ := ofO_some.mp e6
  injection ez' with z1 z2; subst z1 z2
  unfold sneD at ez
  split at ez
  · rename_i xs ys
    split at ez
    · rename_i ns ms ens ems
      split at ez
      · rename_i hl
        cases ez
        have := allI_some ens; subst this
        have := allI_some ems; subst this
        refine ⟨w, rs, s, _, s1, R, e1, fun v1 H1 w1 R1 q1 st1 => ?_⟩
        cases q1 with
        | lst h1 r1 =>
          have := r1.ints; subst this
          refine ⟨_, ns, rfl, h1.sq, hl.1, fun p n hp hn => ?_⟩
          refine ⟨wnew w1 p, rs, s1, _, _, R1.new hp, e2, fun v2 H2 w2 R2 q2 st2 => ?_⟩
          cases q2 with
          | lst h2 r2 =>
            have := r2.ints; subst this
            refine ⟨_, ms, rfl, h2.sq, hl.2, fun p' n' hp' hn' => ?_⟩
            have hs := st2 p _ upd_same (.inl (by unfold wnew; rw [if_pos rfl]))
            have ne : p ≠ p' := fun z => by rw [z, hp'] at hs; cases hs.1
            refine ⟨p, p', _, _, n, n', rfl, rfl, by rw [upd_ne ne]; exact hs.1, upd_same, fun r hr => ?_⟩
            have er : r = !(ssI ns == ssI ms) := by
              refine Bool.eq_iff_iff.mpr ?_
              rw [hr, Bool.not_eq_true', beq_eq_false_iff_ne]
              refine not_congr ⟨fun z => sorted_unique (ssI_sorted _) (ssI_sorted _) fun k => ?_, fun z k => ?_⟩
              · rw [ssI_mem, ssI_mem]
                have := z k
                rw [decide_eq_decide] at this
                exact this
              · rw [decide_eq_decide, ← ssI_mem (l := ns), ← ssI_mem (l := ms), z]
            subst er
            exact k _ _ _ (R2.new hp') (.bl _) (((st1.trans (Step.new hp)).trans st2).trans (Step.new hp'))
      · cases ez
    · cases ez
  · cases ez
/-! ### index -/
theorem firstEq_some {d : D} : ∀ {xs : List D} {n j : Nat}, firstEq d n xs = some j → ∃ i z, j = n + i ∧ xs[i]? = some z ∧ PyData.eqv z.py d.py = true ∧ ∀ m z', m < i → xs[m]? = some z' → PyData.eqv z'.py d.py = false
  | [], n, j, h => by simp [firstEq] at h
  | x :: xs, n, j, h => by
    rw [firstEq] at h
    split at h
    · rename_i hx
      cases h
      exact ⟨0, x, rfl, rfl, hx, fun m _ hm => absurd hm (Nat.not_lt_zero m)⟩
    · rename_i hx
      obtain ⟨i, z, e1, e2, e3, e4⟩ := firstEq_some h
      refine ⟨i + 1, z, by omega, by simpa using e2, e3, fun m z' hm hz => ?_⟩
      cases m with
      | zero => simp at hz; subst hz; simpa using hx
      | succ m => exact e4 m z' (by omega) (by simpa using hz)
theorem pys_get : ∀ (xs : List D) (i : Nat), (D.pys xs)[i]? = (xs[i]?).map D.py
  | [], i => by rw [D.pys]; simp
  | x :: xs, 0 => by rw [D.pys]; simp
  | x :: xs, i + 1 => by rw [D.pys]; simpa using pys_get xs i
theorem op2_idx : Op2 c (Is c) (Is c) idxD (fun x y H Q => tyV c.K "list" x H ∧ rIndexD c.K x [y] H Q) := by
  intro w H x y d1 d2 d Q h1 h2 e k
  unfold idxD at e
  split at e
  · rename_i d2 xs
    split at e
    · rename_i hs
      rw [Bool.and_eq_true] at hs
      obtain ⟨j, e1, rfl⟩ := Option.map_eq_some_iff.mp e
      obtain ⟨i, z, rfl, e3, e4, e5⟩ := firstEq_some e1
      have hp := h1.shaped hs.2
      rw [D.py] at hp hs
      cases h1 with
      | lst h r =>
        refine ⟨.inl ⟨rfl, _, h.sq⟩, _, y, _, D.pys xs, i, z.py, rfl, rfl, hp, h2.shaped hs.1, hs.2, hs.1, ?_, e4, fun m z' hm hz => ?_, ?_⟩
        · rw [pys_get, e3]; rfl
        · rw [pys_get] at hz
          obtain ⟨z0, q1, rfl⟩ := Option.map_eq_some_iff.mp hz
          exact e5 m z0 hm q1
        · rw [show 0 + i = i by omega] at k
          exact k _ H w (Same2.refl _ _) (.int _)
    · cases e
  · cases e
/-! ### slices -/
theorem IsAll.cut {w : Wm} {H : Hp} {vs : List V} {ds : List D} (r : IsAll c w H vs ds) (lo hi : Option Int) : IsAll c w H (cutV vs lo hi) (cutD ds lo hi) := by
  unfold cutV cutD
  rw [r.length]
  exact (r.drop _).take _
def tOI (c : Cc) (m : M (Option Int)) : TO := fun σ H Q => ∃ w rs s d s', Rel c w rs s σ H ∧ m s = some (d, s') ∧ ∀ H' w', Rel c w' rs s' σ H' → Step w H w' H' → Q d H'
theorem d_pno : PO X none (tOI c (ret none)) := ⟨fun pins s σ H Q I h => po_none.run pins s σ H Q I (by
  obtain ⟨w, rs, s, d, s', R, e, k⟩ := h
  cases ret_some.mp e
  exact k H w R (Step.refl _ _))⟩
theorem d_pyes {m : M D} (h : PE X e (tE c m)) : PO X (some e) (tOI c (mOpt m)) := ⟨fun pins s σ H Q I hh => (po_some h).run pins s σ H Q I (by
  obtain ⟨w, rs, s, d, s', R, e, k⟩ := hh
  obtain ⟨d1, s1, e1, e5⟩ := bnd_some.mp e
  split at e5
  · cases ret_some.mp e5
    refine ⟨w, rs, s, _, _, R, e1, fun v1 H1 w1 R1 q1 st1 => ?_⟩
    cases q1
    exact ⟨_, rfl, k H1 w1 R1 st1⟩
  · exact (fail_some.mp e5).elim)⟩
theorem d_slice {m : M D} {ml mh : M (Option Int)} (h : PE X e (tSl (rSlL c.K) (tE c m) (tOI c ml) (tOI c mh))) : PE X e (tE c (bnd m fun x => bnd ml fun lo => bnd mh fun hi => ofO (slD x lo hi))) := pimp h fun σ H Q ⟨w, rs, s, d, s', R, e, k⟩ => by
  obtain ⟨d1, s1, e1, e⟩ := bnd_some.mp e
  obtain ⟨lo, s2, e2, e⟩ := bnd_some.mp e
  obtain ⟨hi, s3, e3, e⟩ := bnd_some.mp e
  obtain ⟨z, ez, ez'⟩ := ofO_some.mp e
  injection ez' with z1 z2; subst z1 z2
  refine ⟨w, rs, s, d1, s1, R, e1, fun v1 H1 w1 R1 q1 st1 => ⟨w1, rs, s1, lo, s2, R1, e2, fun H2 w2 R2 st2 => ⟨w2, rs, s2, hi, _, R2, e3, fun H3 w3 R3 st3 => ?_⟩⟩⟩
  have q3 := (q1.step st2).step st3
  cases q3 with
  | lst hh r =>
    simp only [slD] at ez
    cases ez
    exact ⟨_, _, rfl, hh.sq, fun p hp => k _ _ _ (R3.new hp) (Is.newL (r.cut lo hi) hp) (((st1.trans st2).trans st3).trans (Step.new hp))⟩
  | _ => simp [slD] at ez
/-! ### isinstance with a tuple of types, with an own class -/
def Ty.names : List Ty → List V := fun ts => ts.map fun t => V.ty t.name
theorem isi_base {w : Wm} {H : Hp} {x : V} {d : D} {t : Ty} {b : Bool} (h : Is c w H x d) (e : isiD d t = some b) : ∃ n, TyOf c.K H x (.type n) ∧ ∀ t b, isiD d t = some b → kitB n t.name = some b := by
  cases h with
  | non => exact ⟨_, .non, fun t b e => by cases t <;> simp only [isiD] at e <;> cases e <;> decide +kernel⟩
  | bl z => exact ⟨_, .bl z, fun t b e => by cases t <;> simp only [isiD] at e <;> cases e <;> decide +kernel⟩
  | int z => exact ⟨_, .int z, fun t b e => by cases t <;> simp only [isiD] at e <;> cases e <;> decide +kernel⟩
  | str z => exact ⟨_, .str z, fun t b e => by cases t <;> simp only [isiD] at e <;> cases e <;> decide +kernel⟩
  | lst h r => exact ⟨_, .lst h.2, fun t b e => by cases t <;> simp only [isiD] at e <;> cases e <;> decide +kernel⟩
  | tup h r => exact ⟨_, .tup h.2, fun t b e => by cases t <;> simp only [isiD] at e <;> cases e <;> decide +kernel⟩
  | obj => simp only [isiD] at e; cases e
  | scr => simp only [isiD] at e; cases e
theorem kit_all {n : String} {d : D} (h : ∀ t b, isiD d t = some b → kitB n (Ty.name t) = some b) : ∀ {ts : List Ty} {b : Bool}, isiTD d ts = some b → PySem.W.kitAny c.K (.type n) (ts.map fun t => Value.type t.name) = some b
  | [], b, e => by simp only [isiTD] at e; cases e; rfl
  | t :: ts, b, e => by
    rw [isiTD] at e
    split at e
    · rename_i e1
      cases e
      exact kitAny_cons (kit_ty (h t _ e1)) (fun z => by cases z) fun _ => rfl
    · rename_i e1
      exact kitAny_cons (kit_ty (h t _ e1)) (fun _ => kit_all h e) fun z => by cases z
    · cases e
theorem pair_tys : ∀ ts : List Ty, Paired ClsV (Ty.names ts) (ts.map fun t => Value.type t.name)
  | [] => .nil
  | t :: ts => .cons (.ty _) (pair_tys ts)
theorem op1_isiT (ts : List Ty) (hne : ts ≠ []) (hts : (Ty.names ts).length ≤ sizeLine) : Op1 c (Is c) (fun d => (isiTD d ts).map .bl) (fun x H Q => (Ty.names ts).length ≤ sizeLine ∧ ∀ p, H p = none → rIsiT c.K [x, .ref p] (upd H p (.tup (Ty.names ts))) Q) := by
  intro w H x d1 d Q h1 e k
  obtain ⟨b, e1, rfl⟩ := Option.map_eq_some_iff.mp e
  have hsome : ∃ t b', isiD d1 t = some b' := by
    cases ts with
    | nil => exact absurd rfl hne
    | cons t ts =>
      rw [isiTD] at e1
      split at e1
      · exact ⟨t, _, by assumption⟩
      · exact ⟨t, _, by assumption⟩
      · cases e1
  obtain ⟨t, b', e2⟩ := hsome
  refine ⟨hts, fun p hp => ?_⟩
  have h2 := h1.step (Step.new (o := .tup (Ty.names ts)) hp)
  obtain ⟨n, z1, z2⟩ := isi_base h2 e2
  exact ⟨x, p, _, _, _, b, rfl, upd_same, pair_tys ts, .base z1, kit_all z2 e1, k _ _ (wnew w p) (Same2.new hp) (.bl b)⟩
/-! ### an own len, an own == -/
abbrev noX : XK := fun _ _ _ => False
theorem pass_no {X : Cx} : Passes L2.CX0 X noX := fun _ _ _ _ _ _ _ z => z.elim
def rLenO (C : Addr) (sp : Sp) : List V → Hp → VK → Prop := fun xs H Q => ∃ (a dx : Addr) (fs : List (Str × V)), xs = [.ref a] ∧ H a = some (.ins C dx fs) ∧ sp [.ref a] H (fun v H' => ∃ n : Int, v = .int n ∧ 0 ≤ n ∧ n < 2 ^ 63 ∧ Q (.int n) H') noX
theorem env_in {X : Cx} {pins : List (Addr × Obj)} {σ : L2.St} {H : Hp} {s : Shared} (I : L2.Inv X pins σ H s) : Env0 X.prog X.w X.K X.mg X.base X.A.in1 X.stack s H := by
  have e := I.env0
  exact ⟨e.frames, e.mod, e.bs, e.bsz, e.funs, e.frf, e.hok, e.bare⟩
theorem call_lenO {C f : Addr} {fd : FuncData} {ps : List Str} {sp : Sp} {k : Nat} (F : FnOk X.prog X.w X.K X.mg X.base L2.CX0 k f fd ps sp) (hr : Room (k + 1) X.A) (hs : PySem.W.findIn X.K (.ref C) "__len__" = some (some (.ref f))) (hf : PySem.W.isFn X.K (.ref f) = true) (hb : Binds X.K fd ps []) :
    CallR X (.builtin "len") (rLenO C sp) := by
  intro pins s σ H xs us Q I r h
  obtain ⟨a, dx, fs, rfl, ha, hsp⟩ := h
  rw [Vals.ref1 r]
  obtain ⟨mA, J, _⟩ := ins_get I.hok ha
  obtain ⟨od, J, _⟩ := J.look
  obtain ⟨m, hF⟩ := I.fr
  refine PySem.W.len_K hF I.ok.mod.kin J hs hf ?_
  have hl := F.len _ _ _ _ hsp
  refine wpAny_call (codeAny_mono (F.run X.A.in1 X.stack s H ⟨[.ref a], []⟩ [.ref a] [.ref a] _ noX hr.in1 (env_in I) (by
    have := hb s [.ref a] I.kIn (by simpa using hl)
    simpa using this) (.cons rfl .nil) hsp) fun r s' hq => ?_)
  cases r with
  | error e => exact pass_no pins σ H s e s' I hq
  | ok fl =>
    cases fl with
    | ret u =>
      obtain ⟨z, H', I', rz, n, rfl, h0, h1, q⟩ := I.after hq
      obtain ⟨t, rfl⟩ := rz
      exact ⟨⟨h0, h1⟩, .int n, H', I'.tok _, ⟨_, rfl⟩, q⟩
    | next => exact False.elim hq
    | brk => exact False.elim hq
    | cont => exact False.elim hq
def rEqO (C : Addr) (sp : Sp) : R2 := fun x y H Q => ∃ (a b dx dy : Addr) (fs gs : List (Str × V)), x = .ref a ∧ y = .ref b ∧ H a = some (.ins C dx fs) ∧ H b = some (.ins C dy gs) ∧ sp [.ref a, .ref b] H (fun v H' => ∃ r : Bool, v = .bl r ∧ Q (.bl r) H') noX
theorem op_eqO {C f : Addr} {fd : FuncData} {ps : List Str} {sp : Sp} {k : Nat} (F : FnOk X.prog X.w X.K X.mg X.base L2.CX0 k f fd ps sp) (hr : Room k X.A) (hs : PySem.W.findIn X.K (.ref C) "__eq__" = some (some (.ref f))) (hf : PySem.W.isFn X.K (.ref f) = true) (hb : Binds X.K fd ps []) :
    OpR X (compareOp .Eq) (rEqO C sp) := by
  intro pins s σ H x y v u Q I rx ry h
  obtain ⟨a, b, dx, dy, fs, gs, rfl, rfl, ha, hb', hsp⟩ := h
  cases rx; cases ry
  obtain ⟨mA, J, _⟩ := ins_get I.hok ha
  obtain ⟨mB, J', _⟩ := ins_get I.hok hb'
  obtain ⟨od, J, _⟩ := J.look
  obtain ⟨od', J', _⟩ := J'.look
  obtain ⟨m, hF⟩ := I.fr
  show wpAny (model X.prog X.w) X.A (richCompare .Eq (.ref a) (.ref b)) (EP X pins σ Q) X.xe s
  refine PySem.W.cmp_K (op := .Eq) (tb := .ref C) hr.units0 hF I.ok.mod.kin J J'.type (by simp [PySem.W.notFirst]) hs hf ?_
  have hl := F.len _ _ _ _ hsp
  refine wpAny_call (codeAny_mono (F.run X.A X.stack s H ⟨[.ref a, .ref b], []⟩ [.ref a, .ref b] [.ref a, .ref b] _ noX hr I.env0 (by
    have := hb s [.ref a, .ref b] I.kIn (by simpa using hl)
    simpa using this) (.cons rfl (.cons rfl .nil)) hsp) fun r s' hq => ?_)
  cases r with
  | error e => exact pass_no pins σ H s e s' I hq
  | ok fl =>
    cases fl with
    | ret u =>
      obtain ⟨z, H', I', rz, n, rfl, q⟩ := I.after hq
      cases rz
      exact ⟨.bl n, H', I', rfl, q⟩
    | next => exact False.elim hq
    | brk => exact False.elim hq
    | cont => exact False.elim hq
/-! ### keywords alone -/
theorem perm_rel (π : List Nat) {vs : List V} {us : List Value} (r : Vals vs us) : Vals (perm π vs) (perm π us) := by
  unfold perm
  induction π with
  | nil => exact .nil
  | cons i π ih =>
    rw [List.filterMap_cons, List.filterMap_cons]
    cases ev : vs[i]? with
    | none =>
      have : us[i]? = none := by
        rw [List.getElem?_eq_none_iff] at ev ⊢
        rw [← r.length]; exact ev
      rw [this]
      exact ih
    | some v =>
      obtain ⟨u, e1, e2⟩ := r.get ev
      rw [e1]
      exact .cons e2 ih
theorem pe_callK0 {k : Nat} {f : Addr} {fd : FuncData} {ps ks : List Str} {sp : Sp} {x : Str} {p pos : Pos} {kws : List Keyword} {tk : TA} {g : List Value → List Value → List Value} {gV : List V → List V → List V} (F : FnOk X.prog X.w X.K X.mg X.base L2.CX0 k f fd ps sp) (hr : Room k X.A) (hg : Gl X x) (hm : X.mg x = some (.ref f)) (hk : PySem.W.keepIn X.K (.ref f) = true)
    (hb : KBn X.K fd ps 0 ks g gV) (hkw : PK X kws tk) (hall : (backToKw pos (keywordEach kws X.env)).all (·.1.isSome) = true) (hks : (backToKw pos (keywordEach kws X.env)).filterMap (·.1) = ks)
    (hdb : (x == ("__debug__" : Str)) = false) (hno : (backToKw pos (keywordEach kws X.env)).any (·.1.isNone) = false) : PE X (.Call (.Name x p) [] kws pos) (tCallN 0 ks.length sp gV noX tNil tk) := by
  refine ⟨fun pins s σ H Q I h => ?_⟩
  refine wpAny_Call_Name_kw (ld_glob I hg hm ?_ hdb)
  refine PySem.W.callWith_KW0 (h₀ := X.base) I.ok.mod.kin hk hall ?_ (by rw [hno]; rfl)
  refine thn (hkw.run pos pins s σ H _ I h) fun ws s2 ⟨zs, H2, I2, rz, l1, l2, q2⟩ => ⟨I2.kIn, ?_⟩
  rw [hks]
  exact run_fnN (us := []) (vs := []) F hr hb pass_no I2 .nil rz rfl l2 q2
/-! ### what a call does, from any arguments -/
theorem call_core {n f : Nat} {Γ : Env} {w1 : Wm} {rs : List V} {s1 : St} {σ : L2.St} {H1 : Hp} {vs : List V} {sl : List Slot} {d : D} {S' : List OD} {Q : VK} {E : XK} (R1 : Rel c w1 rs s1 σ H1) (q1 : ArgsOk c w1 rs H1 vs sl) (hn : sl.length = n) (ec : Γ.call f sl s1.S = some (.leaf d, S'))
    (k : ∀ v H2 w2, Rel c w2 rs { s1 with S := S' } σ H2 → Is c w2 H2 v d → Step w1 H1 w2 H2 → Q v H2) : spD c n Γ.call f vs H1 Q E := by
  refine ⟨wcall w1, rs, s1.S, sl, .leaf d, S', hn, q1.stepN step_call.n, R1.cells, fun a i p z => ?_, ec, fun v H2 wx cs q st => ?_⟩
  · unfold wcall at z
    split at z <;> first | cases z | (rename_i h1 h2; exact h1 i p z)
  · cases q with
    | leaf q => exact k v H2 _ (R1.call st cs) (q.stepN fun a o h z => ⟨h, wback_no z⟩) (wback_step st)
theorem doCall_leaf {Γ : Env} {f : Nat} {sl : List Slot} {s s' : St} {o : OD} (h : doCall Γ f sl s = some (o, s')) : ∃ S', Γ.call f sl s.S = some (o, S') ∧ s' = { s with S := S' } := by
  unfold doCall at h
  split at h
  · rename_i o' S' ec
    cases h
    exact ⟨S', ec, rfl⟩
  · cases h
theorem i_lenO {k f : Nat} {Γ : Env} {m : M D} : ∀ σ H Q, tE c (bnd m fun x => lenM Γ k f x) σ H Q → tCB (rLenO (c.cl k) (spD c 1 Γ.call f)) (tCons (tE c m) tNil) σ H Q := fun σ H Q ⟨w, rs, s, d, s', R, e, kq⟩ => by
  obtain ⟨d1, s1, e1, e2⟩ := bnd_some.mp e
  refine ⟨w, rs, s, d1, s1, R, e1, fun v1 H1 w1 R1 q1 st1 => ?_⟩
  unfold lenM at e2
  split at e2
  · rename_i q fs
    split at e2
    · rename_i hq
      subst hq
      obtain ⟨o, s2, e3, e4⟩ := bnd_some.mp e2
      obtain ⟨S', ec, rfl⟩ := doCall_leaf e3
      split at e4
      · rename_i n
        split at e4
        · rename_i hn
          cases ret_some.mp e4
          have q1' := q1
          cases q1 with
          | obj h1 h2 h3 r =>
            refine ⟨_, _, _, rfl, h2, call_core R1 (.cons (show ArgOk c w1 rs H1 _ (.val _) from q1') .nil) rfl ec fun v H2 w2 R2 q2 st2 => ?_⟩
            cases q2
            exact ⟨n, rfl, hn.1, hn.2, kq _ H2 w2 R2 (.int n) (st1.trans st2)⟩
        · exact (fail_some.mp e4).elim
      · exact (fail_some.mp e4).elim
    · exact (fail_some.mp e2).elim
  · exact (fail_some.mp e2).elim
theorem i_eqO {k f : Nat} {Γ : Env} {m m' : M D} : ∀ σ H Q, tE c (bnd m fun x => bnd m' fun y => eqM Γ k f x y) σ H Q → tOp (rEqO (c.cl k) (spD c 2 Γ.call f)) (tE c m) (tE c m') σ H Q := fun σ H Q ⟨w, rs, s, d, s', R, e, kq⟩ => by
  obtain ⟨d1, s1, e1, e2⟩ := bnd_some.mp e
  obtain ⟨d2, s2, e2, e3⟩ := bnd_some.mp e2
  refine ⟨w, rs, s, d1, s1, R, e1, fun v1 H1 w1 R1 q1 st1 => ⟨w1, rs, s1, d2, s2, R1, e2, fun v2 H2 w2 R2 q2 st2 => ?_⟩⟩
  have q1 := q1.step st2
  unfold eqM at e3
  split at e3
  · rename_i q fs q' gs
    split at e3
    · rename_i hq
      obtain ⟨rfl, rfl⟩ := hq
      obtain ⟨o, s3, e4, e5⟩ := bnd_some.mp e3
      obtain ⟨S', ec, rfl⟩ := doCall_leaf e4
      split at e5
      · rename_i b
        cases ret_some.mp e5
        have q1' := q1
        have q2' := q2
        cases q1 with
        | obj h1 h2 h3 r =>
          cases q2 with
          | obj g1 g2 g3 r' =>
            refine ⟨_, _, _, _, _, _, rfl, rfl, h2, g2, call_core R2 (.cons (show ArgOk c w2 rs H2 _ (.val _) from q1') (.cons (show ArgOk c w2 rs H2 _ (.val _) from q2') .nil)) rfl ec fun v H3 w3 R3 q3 st3 => ?_⟩
            cases q3
            exact ⟨b, rfl, kq _ H3 w3 R3 (.bl b) ((st1.trans st2).trans st3)⟩
      · exact (fail_some.mp e5).elim
    · exact (fail_some.mp e3).elim
  · exact (fail_some.mp e3).elim
theorem IsAll.args {w : Wm} {rs : List V} {H : Hp} : ∀ {vs : List V} {ds : List D}, IsAll c w H vs ds → ArgsOk c w rs H vs (ds.map .val)
  | _, _, .nil => .nil
  | _, _, .cons h r => .cons h (IsAll.args r)
theorem IsAll.perm {w : Wm} {H : Hp} {vs : List V} {ds : List D} (r : IsAll c w H vs ds) (π : List Nat) : IsAll c w H (perm π vs) (Dm.perm π ds) := by
  unfold Dm.perm
  induction π with
  | nil => exact .nil
  | cons i π ih =>
    rw [List.filterMap_cons, List.filterMap_cons]
    cases ev : ds[i]? with
    | none =>
      have : vs[i]? = none := by
        rw [List.getElem?_eq_none_iff] at ev ⊢
        rw [r.length]; exact ev
      rw [this]
      exact ih
    | some d =>
      obtain ⟨v, e1, e2⟩ := r.get ev
      rw [e1]
      exact .cons e2 ih
theorem i_callK {n nk f : Nat} {Γ : Env} {π : List Nat} {ms : M (List D)} (hnk : ∀ s ds s', ms s = some (ds, s') → ds.length = nk) :
    ∀ σ H Q, tE c (bnd ms fun ds => callKM Γ f n π ds) σ H Q → tCallN 0 nk (spD c n Γ.call f) (fun _ zs => perm π zs) noX tNil (tL c ms) σ H Q := fun σ H Q ⟨w, rs, s, d, s', R, e, kq⟩ => by
  obtain ⟨ds, s1, e1, e2⟩ := bnd_some.mp e
  refine ⟨w, rs, s, ds, s1, R, e1, fun vs H1 w1 R1 q1 st1 => ⟨rfl, by rw [q1.length]; exact hnk _ _ _ e1, ?_⟩⟩
  unfold callKM at e2
  split at e2
  · rename_i hn
    obtain ⟨o, s2, e3, e4⟩ := bnd_some.mp e2
    obtain ⟨S', ec, rfl⟩ := doCall_leaf e3
    obtain ⟨z, ez, ez'⟩ := ofO_some.mp e4
    injection ez' with z1 z2; subst z1 z2
    cases o <;> simp only [OD.leafD] at ez <;> cases ez
    exact call_core R1 (q1.perm π).args (by rw [List.length_map]; exact hn) ec fun v H2 w2 R2 q2 st2 => kq v H2 w2 R2 q2 (st1.trans st2)
  · exact (fail_some.mp e2).elim
end
end Dm

/-! The D machine: all expressions. -/
namespace Dm
open PySem L2 PyProof.Rows

structure FI where
  x : Str
  ps : List Str
  pl : Bool
structure Tb where
  globs : List Str
  funs : List FI
  clss : List (Str × Nat)
  kws : List (Nat × List Str × List Nat)
  lens : List (Nat × Nat)
  eqs : List (Nat × Nat)
  inss : List (Nat × Str)
def bltNames : List Str := ["sorted", "set", "len", "abs", "max", "min", "int", "all", "any", "sum", "tuple", "list", "isinstance", "bool", "str", "range", "enumerate", "divmod"]
def As.len : As → Nat
  | .nil => 0
  | .val _ as => as.len + 1
  | .share _ _ _ as => as.len + 1
def vis (sc : Scope) (x : Str) : Bool := match sc.names.lookup x with | some .local => true | some .cell => true | some .free => true | _ => false
def glb (sc : Scope) (x : Str) : Bool := match sc.names.lookup x with | some .globalImplicit => true | _ => false
def okN (N : List Str) (sc : Scope) (i : Nat) (x : Str) : Bool := decide (N[i]? = some x) && vis sc x && !(x == ("__debug__" : Str)) && !(x == ("__classdict__" : Str))
def E.noIfe : E → Bool
  | .ife .. => false
  | _ => true
def E.base : E → Bool
  | .call _ _ _ .nil _ => false
  | .new _ _ _ _ .nil _ => false
  | .callK .. => false
  | _ => true
def Ks.nms : Ks → List Str
  | .nil => []
  | .cons x _ _ ks => x :: ks.nms
def isTp : Tg → Bool
  | .tp .. => true
  | _ => false
def okFn (tb : Tb) (f : Nat) (x : Str) (l : Nat) : Bool := match tb.funs[f]? with | some fi => fi.pl && (decide (fi.x = x) && decide (fi.ps.length = l)) | none => false
def okCl (tb : Tb) (k : Nat) (x : Str) (f l : Nat) : Bool := match tb.clss[k]?, tb.funs[f]? with
  | some (y, g), some fi => decide (y = x) && decide (g = f) && decide (fi.ps.length = l + 1)
  | _, _ => false
def okPs (tb : Tb) (f l : Nat) : Bool := match tb.funs[f]? with | some fi => decide (fi.ps.length = l) | none => false
def okOp (N : List Str) (sc : Scope) (b : Bool) : E → Bool
  | .bv i x _ => okN N sc i x
  | _ => b
def okNot (op : UnaryOp) (b : Bool) : Bool := match op with | .Not => b | _ => true
mutual
def okE (tb : Tb) (N : List Str) (sc : Scope) : E → Bool
  | .var i x _ => okN N sc i x
  | .bv _ _ _ => false
  | .con c _ _ => (conD c).isSome
  | .glo g x _ => decide (tb.globs[g]? = some x) && glb sc x && !(x == ("__debug__" : Str))
  | .tup es _ _ => okEs tb N sc es
  | .lst es _ => okEs tb N sc es
  | .bin a _ b _ => okE tb N sc a && okE tb N sc b
  | .una op a _ => okE tb N sc a && okNot op a.noIfe
  | .bop _ e es _ => okE tb N sc e && e.noIfe && okB tb N sc es
  | .cmp a _ b _ => okOp N sc (okE tb N sc a) a && okOp N sc (okE tb N sc b) b
  | .cmp2 a _ b _ c _ => okE tb N sc a && okE tb N sc b && okE tb N sc c
  | .ife c a b _ => okE tb N sc c && c.noIfe && okE tb N sc a && okE tb N sc b
  | .sub a i _ => okOp N sc (okE tb N sc a) a && okE tb N sc i
  | .att a _ _ _ => okOp N sc (okE tb N sc a && a.base) a
  | .bi1 b _ e _ => decide (b ≠ .max2) && decide (b ≠ .min2) && decide (b ≠ .divmod) && glb sc b.nm && okOp N sc (okE tb N sc e) e
  | .bi2 b _ e e' _ => (decide (b = .max2) || (decide (b = .min2) || decide (b = .divmod))) && glb sc b.nm && okE tb N sc e && okE tb N sc e'
  | .conv b _ e _ => (decide (b = .list) || decide (b = .tuple)) && glb sc b.nm && okE tb N sc e
  | .mth0 m j x _ p2 p3 => okN N sc j x && (p2.endLine == p3.line) && (decide (m = .pop) || decide (m = .clear) || decide (m = .reverse))
  | .mth1 m j x _ p2 e p3 => okN N sc j x && (p2.endLine == p3.line) && (decide (m = .append) || decide (m = .extend) || decide (m = .pop)) && okE tb N sc e
  | .isi a t _ _ _ => glb sc "isinstance" && glb sc t.nm && okOp N sc (okE tb N sc a) a
  | .call f x _ as _ => (match tb.funs[f]? with | some fi => fi.pl && (decide (fi.x = x) && decide (fi.ps.length = as.len)) | none => false) && glb sc x && !(x == ("__debug__" : Str)) && okAs tb N sc as
  | .callT f x _ g y _ as _ _ => okFn tb f x 1 && okFn tb g y as.len && glb sc x && glb sc y && !(x == ("__debug__" : Str)) && !(y == ("__debug__" : Str)) && decide (as.len ≠ 0) && okAs tb N sc as
  | .new k f x _ as _ => okCl tb k x f as.len && glb sc x && !(x == ("__debug__" : Str)) && okAs tb N sc as
  | .comp elt t it ifs scope own _ => blkC N sc scope own && (t.ids.all fun i => (own.map (·.2)).contains i) && okT N (relS scope sc) (fun x => scope.names.lookup x == some .cell) t && okWk tb N sc (isTp t) it && okIfs tb N (relS scope sc) ifs && okE tb N (relS scope sc) elt
  | .compN _ .nil _ _ _ => false
  | .compN elt (.cons t it ifs cs) scope own _ => blkC N sc scope own && ((t.ids ++ cs.ids).all fun i => (own.map (·.2)).contains i) && okT N (relS scope sc) (fun x => scope.names.lookup x == some .cell) t && okWk tb N sc (isTp t) it && okIfs tb N (relS scope sc) ifs && okCs tb N (relS scope sc) (fun x => scope.names.lookup x == some .cell) cs && okE tb N (relS scope sc) elt
  | .ss _ _ e _ _ => glb sc "sorted" && glb sc "set" && okE tb N sc e
  | .sne _ a _ _ b _ _ => glb sc "set" && okE tb N sc a && okE tb N sc b
  | .idx a p e q => okE tb N sc a && a.base && (p.endLine == q.line) && okE tb N sc e
  | .sl a lo hi _ _ => okE tb N sc a && okEO tb N sc lo && okEO tb N sc hi
  | .lrng _ _ e _ _ => glb sc "list" && glb sc "range" && okE tb N sc e
  | .isiT a ts _ _ _ _ => glb sc "isinstance" && (ts.all fun t => glb sc t.1.nm) && okE tb N sc a && decide (ts ≠ []) && decide (ts.length ≤ 20)
  | .isiC a k x _ _ _ => glb sc "isinstance" && glb sc x && !(x == ("__debug__" : Str)) && decide ((k, x) ∈ tb.inss) && okE tb N sc a
  | .callK f x _ ks n π _ => okFn tb f x n && glb sc x && !(x == ("__debug__" : Str)) && decide ((f, ks.nms, π) ∈ tb.kws) && okKs tb N sc ks
  | .lenO k f _ e _ => glb sc "len" && decide ((k, f) ∈ tb.lens) && okPs tb f 1 && okE tb N sc e
  | .eqO k f a b _ => decide ((k, f) ∈ tb.eqs) && okPs tb f 2 && okE tb N sc a && okE tb N sc b
def okEO (tb : Tb) (N : List Str) (sc : Scope) : EO → Bool
  | .no => true
  | .yes e => okE tb N sc e
def okKs (tb : Tb) (N : List Str) (sc : Scope) : Ks → Bool
  | .nil => true
  | .cons _ e _ ks => okE tb N sc e && okKs tb N sc ks
def okCs (tb : Tb) (N : List Str) (sc : Scope) (fnb : Str → Bool) : Cs → Bool
  | .nil => true
  | .cons t it ifs cs => okT N sc fnb t && okWk tb N sc (isTp t) it && okIfs tb N sc ifs && okCs tb N sc fnb cs
def okEs (tb : Tb) (N : List Str) (sc : Scope) : Es → Bool
  | .nil => true
  | .cons e es => okE tb N sc e && okEs tb N sc es
def okB (tb : Tb) (N : List Str) (sc : Scope) : Es → Bool
  | .nil => true
  | .cons e es => okE tb N sc e && e.noIfe && okB tb N sc es
def okIfs (tb : Tb) (N : List Str) (sc : Scope) : Es → Bool
  | .nil => true
  | .cons e .nil => okE tb N sc e && e.noIfe
  | _ => false
def okAs (tb : Tb) (N : List Str) (sc : Scope) : As → Bool
  | .nil => true
  | .val e as => okE tb N sc e && okAs tb N sc as
  | .share i x _ as => okN N sc i x && okAs tb N sc as
def okWk (tb : Tb) (N : List Str) (sc : Scope) (tp : Bool) : Wk → Bool
  | .e a => okE tb N sc a
  | .rng a _ _ => glb sc "range" && okE tb N sc a
  | .rng2 a b _ _ => glb sc "range" && okE tb N sc a && okE tb N sc b
  | .enu a _ _ => glb sc "enumerate" && okE tb N sc a && tp
end
structure Gd (X : Cx) (c : Cc) (Γ : Env) (tb : Tb) (n : Nat) : Prop where
  K : X.K = c.K
  nd : X.N.Nodup
  calm : X.calm = true
  room : Room (2 * n + 1) X.A
  fnm : c.fn = Γ.fn
  cls : ∀ q, Γ.fn q ≠ [] → ClsOk c q
  blt : ∀ x ∈ bltNames, X.mg x = none
  glob : ∀ g x d, tb.globs[g]? = some x → Γ.glob g = some d → ∃ u v, X.mg x = some u ∧ L2.RelV v u ∧ ∀ w H, Is c w H v d
  fns : ∀ (f : Nat) (fi : FI), tb.funs[f]? = some fi → fi.pl = true → ∃ fa fd, X.mg fi.x = some (.ref fa) ∧ PySem.W.keepIn X.K (.ref fa) = true ∧ Binds X.K fd fi.ps [] ∧ FnOk X.prog X.w X.K X.mg X.base L2.CX0 (2 * n) fa fd fi.ps (spD c fi.ps.length Γ.call f) ∧ ∀ ks π, (f, ks, π) ∈ tb.kws → KBn X.K fd fi.ps 0 ks (fun _ ws => perm π ws) (fun _ zs => perm π zs)
  lens : ∀ (k f : Nat) (fi : FI), (k, f) ∈ tb.lens → tb.funs[f]? = some fi → ∃ fa fd, PySem.W.findIn X.K (.ref (c.cl k)) "__len__" = some (some (.ref fa)) ∧ PySem.W.isFn X.K (.ref fa) = true ∧ Binds X.K fd fi.ps [] ∧ FnOk X.prog X.w X.K X.mg X.base L2.CX0 (2 * n) fa fd fi.ps (spD c fi.ps.length Γ.call f)
  eqs : ∀ (k f : Nat) (fi : FI), (k, f) ∈ tb.eqs → tb.funs[f]? = some fi → ∃ fa fd, PySem.W.findIn X.K (.ref (c.cl k)) "__eq__" = some (some (.ref fa)) ∧ PySem.W.isFn X.K (.ref fa) = true ∧ Binds X.K fd fi.ps [] ∧ FnOk X.prog X.w X.K X.mg X.base L2.CX0 (2 * n) fa fd fi.ps (spD c fi.ps.length Γ.call f)
  inss : ∀ (k : Nat) (x : Str), (k, x) ∈ tb.inss → X.mg x = some (.ref (c.cl k)) ∧ C8.InsC X.K (c.cl k)
  mks : ∀ (k : Nat) (x : Str) (f : Nat) (fi : FI), tb.clss[k]? = some (x, f) → tb.funs[f]? = some fi → ∃ fa fd, X.mg x = some (.ref (c.cl k)) ∧ Mk X.K (c.cl k) fa ∧ Binds X.K fd fi.ps [] ∧ FnOk X.prog X.w X.K X.mg X.base L2.CX0 (2 * n) fa fd fi.ps (spD c fi.ps.length Γ.call f)
theorem Gd.blk {X : Cx} {c : Cc} {Γ : Env} {tb : Tb} {n : Nat} (G : Gd X c Γ tb n) (s : Shared) (H : Hp) (scope : Scope) (cenv : PySem.Env) (fp : List Addr) : Gd (X.blk s H scope cenv fp) c Γ tb n :=
  ⟨G.K, G.nd, G.calm, G.room, G.fnm, G.cls, G.blt, G.glob, G.fns, G.lens, G.eqs, G.inss, G.mks⟩
section
variable {X : Cx} {c : Cc} {Γ : Env} {tb : Tb} {n : Nat}
theorem vis_ok {sc : Scope} {x : Str} (h : vis sc x = true) : Vis sc x := by
  unfold vis at h
  split at h
  · rename_i e; exact .inl e
  · rename_i e; exact .inr (.inl e)
  · rename_i e; exact .inr (.inr e)
  · cases h
theorem glb_ok {x : Str} (h : glb X.env.scope x = true) : Gl X x := by
  unfold glb at h
  split at h
  · rename_i e; exact e
  · cases h
theorem name_ok {i : Nat} {x : Str} {p : Pos} (h : okN X.N X.env.scope i x = true) : PE X (.Name x p) (tVar i) := by
  unfold okN at h
  simp only [Bool.and_eq_true, decide_eq_true_eq, Bool.not_eq_true'] at h
  exact pe_var h.1.1.1 (vis_ok h.1.1.2) h.1.2 h.2
theorem pt_of {e : E} {m : M D} (h : PE X e.py (tE c m)) (he : ∀ whole, isTrue e.py X.env whole = (do let v ← whole; standAt e.py.pos; holding [v] (truthy v))) : PT X e.py (tBo c (trM m)) := d_tval (pt_val h he)
theorem units_ok {k : Nat} (r : Room k X.A) : X.A.units + 65 < cLine := by have := r.un; omega
theorem As.lenOk : ∀ {as : As} {s s' : St} {sl : List Slot}, denAs Γ as s = some (sl, s') → sl.length = as.len
  | .nil, _, _, _, h => by rw [denAs] at h; cases ret_some.mp h; rfl
  | .val e as, s, s', sl, h => by
    rw [denAs] at h
    obtain ⟨_, _, _, h⟩ := bnd_some.mp h
    obtain ⟨_, _, h1, h⟩ := bnd_some.mp h
    cases ret_some.mp h
    rw [List.length_cons, As.lenOk h1]; rfl
  | .share i x p as, s, s', sl, h => by
    rw [denAs] at h
    obtain ⟨_, _, _, h⟩ := bnd_some.mp h
    obtain ⟨_, _, h1, h⟩ := bnd_some.mp h
    cases ret_some.mp h
    rw [List.length_cons, As.lenOk h1]; rfl
theorem As.noStar {pos : Pos} {env : PySem.Env} : ∀ as : As, (backTo pos (starEach as.py env)).any (·.1) = false
  | .nil => by rw [As.py]; rfl
  | .val e as => by rw [As.py]; exact noStar_cons (As.noStar as)
  | .share i x p as => by
    rw [As.py, star_name]
    have := As.noStar (pos := pos) (env := env) as
    simpa [backTo] using this
theorem Wk.nofold (e : Wk) (env : PySem.Env) (x : Value) : foldedSetIterable e.py env x = pure x := by
  cases e <;> first | (rw [Wk.py]; exact E.nofold _ _ _) | (rw [Wk.py]; rfl)
theorem enumD_get : ∀ (ds : List D) (n i : Nat) (d : D), (enumD n ds)[i]? = some d → ∃ x, ds[i]? = some x ∧ d = .tup [.int ((n + i : Nat) : Int), x]
  | [], n, i, d, h => by simp [enumD] at h
  | x :: ds, n, 0, d, h => by simp [enumD] at h; exact ⟨x, rfl, by rw [← h]; simp⟩
  | x :: ds, n, i + 1, d, h => by
    rw [enumD, List.getElem?_cons_succ] at h
    obtain ⟨y, e1, e2⟩ := enumD_get ds (n + 1) i d h
    exact ⟨y, by simpa using e1, by rw [e2, show n + 1 + i = n + (i + 1) by omega]⟩
theorem enumD_length : ∀ (ds : List D) (n : Nat), (enumD n ds).length = ds.length
  | [], n => rfl
  | x :: ds, n => by rw [enumD, List.length_cons, List.length_cons, enumD_length ds (n + 1)]
theorem walk_enum {w : Wm} {H : Hp} {a : Addr} {vs : List V} {ds : List D} (h : LsA w H a vs) (r : IsAll c w H vs ds) : WalkD c (Ite c.K a) (enumD 0 ds) w H := fun w1 H1 st => by
  have h1 := h.stepN st
  have r1 := r.stepN st
  refine ⟨⟨vs, h1.sq, by rw [enumD_length, r.length]; exact Nat.le_refl _⟩, fun i d e => ?_⟩
  obtain ⟨y, e1, rfl⟩ := enumD_get ds 0 i d e
  obtain ⟨v, e2, q⟩ := r1.get e1
  refine ⟨⟨vs, v, h1.sq, e2⟩, fun x H2 y => ?_⟩
  obtain ⟨T, x', rfl, hT, rfl, y2⟩ := y
  have e3 := y2 vs h1.sq
  rw [e2] at e3; cases e3
  refine ⟨wnew w1 T, Same2.new hT, ?_⟩
  rw [Nat.zero_add]
  exact Is.newT (.cons (.int _) (.cons q .nil)) hT
theorem d_ienu {tg e : Expr} {m : M D} (hK : X.K = c.K) (h : PI X tg e (iEnum X.K (tCons (tE c m) tNil))) : PI X tg e (tI c (bnd m fun x => match x with
    | .lst ds => ret (enumD 0 ds)
    | _ => fail)) := PI_imp h fun σ H Rq ⟨w, rs, s, items, s', R, e, k⟩ => by
  obtain ⟨d1, s1, e1, e5⟩ := bnd_some.mp e
  split at e5
  · cases ret_some.mp e5
    refine ⟨w, rs, s, _, _, R, e1, fun v1 H1 w1 R1 q1 st1 => ?_⟩
    cases q1 with
    | lst h r =>
      rw [hK]
      exact ⟨_, _, rfl, h.sq, k _ H1 w1 R1 (walk_enum h r) st1⟩
  · simp [fail] at e5
def scOf (Γ : Env) : Cs → List SC
  | .nil => []
  | .cons t it ifs cs => ⟨t.py, it.py, ifs.py, ⟨t, denIt Γ it, denIfs Γ ifs, t.ids ++ cs.ids⟩⟩ :: scOf Γ cs
theorem sc_dc (Γ : Env) : ∀ cs : Cs, (scOf Γ cs).map (·.dc) = denCs Γ cs
  | .nil => by rw [scOf, denCs]; rfl
  | .cons t it ifs cs => by rw [scOf, denCs, List.map_cons, sc_dc Γ cs]
theorem sc_py (Γ : Env) (c : Cc) : ∀ cs : Cs, ((scOf Γ cs).map (SC.cl c)).map Cl.py = cs.py
  | .nil => by rw [scOf, Cs.py]; rfl
  | .cons t it ifs cs => by rw [scOf, Cs.py, List.map_cons, List.map_cons, sc_py Γ c cs]; rfl
theorem nest_of (Γ : Env) : ∀ cs : Cs, DNest (scOf Γ cs)
  | .nil => trivial
  | .cons t it ifs .nil => ⟨fun i hi => List.mem_append_left _ hi, trivial, trivial⟩
  | .cons t it ifs (.cons t' it' ifs' cs) => ⟨fun i hi => List.mem_append_left _ hi, fun i hi => List.mem_append_right _ hi, nest_of Γ (.cons t' it' ifs' cs)⟩
theorem cl_nest (c : Cc) : ∀ qs : List SC, DNest qs → Nest (qs.map (SC.cl c))
  | [], _ => trivial
  | [q], _ => ⟨(fun i hi => by cases hi), trivial⟩
  | q :: z :: r, h => ⟨h.2.1, cl_nest c (z :: r) h.2.2⟩
theorem Ks.lenOk {Γ : Env} : ∀ (ks : Ks) {s s' : St} {ds : List D}, denKs Γ ks s = some (ds, s') → ds.length = ks.nms.length
  | .nil, _, _, _, h => by rw [denKs] at h; cases ret_some.mp h; rfl
  | .cons x e p ks, s, s', ds, h => by
    rw [denKs] at h
    obtain ⟨_, _, _, h⟩ := bnd_some.mp h
    obtain ⟨_, _, h1, h⟩ := bnd_some.mp h
    cases ret_some.mp h
    rw [List.length_cons, Ks.lenOk ks h1]; rfl
theorem Ks.all (pos : Pos) (env : PySem.Env) : ∀ ks : Ks, (backToKw pos (keywordEach ks.py env)).all (·.1.isSome) = true
  | .nil => by rw [Ks.py]; rfl
  | .cons x e p ks => by
    rw [Ks.py]
    exact Ks.all pos env ks
theorem Ks.none (pos : Pos) (env : PySem.Env) : ∀ ks : Ks, (backToKw pos (keywordEach ks.py env)).any (·.1.isNone) = false
  | .nil => by rw [Ks.py]; rfl
  | .cons x e p ks => by
    rw [Ks.py]
    exact Ks.none pos env ks
theorem Ks.names (pos : Pos) (env : PySem.Env) : ∀ ks : Ks, (backToKw pos (keywordEach ks.py env)).filterMap (·.1) = ks.nms
  | .nil => by rw [Ks.py]; rfl
  | .cons x e p ks => by
    rw [Ks.py, Ks.nms, ← Ks.names pos env ks]; rfl
theorem d_knil : PK X [] (tL c (ret [])) := ⟨fun pos pins s σ H Q I h => pk_nil.run pos pins s σ H Q I (by
  obtain ⟨w, rs, s, d, s', R, e, k⟩ := h
  cases ret_some.mp e
  exact k [] H w R .nil (Step.refl _ _))⟩
theorem d_kcons {m : M D} {ms : M (List D)} {kws : List Keyword} (h : PK X kws (tCons (tE c m) (tL c ms))) : PK X kws (tL c (bnd m fun d => bnd ms fun ds => ret (d :: ds))) := ⟨fun pos pins s σ H Q I q => h.run pos pins s σ H Q I (by
  obtain ⟨w, rs, s, d, s', R, e, k⟩ := q
  obtain ⟨d1, s1, e1, e⟩ := bnd_some.mp e
  obtain ⟨d2, s2, e2, e⟩ := bnd_some.mp e
  cases ret_some.mp e
  refine ⟨w, rs, s, d1, s1, R, e1, fun v1 H1 w1 R1 q1 st1 => ?_⟩
  refine ⟨w1, rs, s1, d2, _, R1, e2, fun v2 H2 w2 R2 q2 st2 => ?_⟩
  exact k _ H2 w2 R2 (.cons (q1.step st2) q2) (st1.trans st2))⟩
theorem d_lrng {e : Expr} {m : M D} (h : PE X e (tLstRg (tRg1 (tE c m)))) : PE X e (tE c (bnd m fun x => ofO (lrngD x))) := pimp h fun σ H Q ⟨w, rs, s, d, s', R, e, k⟩ => by
  obtain ⟨d1, s1, e1, e5⟩ := bnd_some.mp e
  obtain ⟨z, ez, ez'⟩ := ofO_some.mp e5
  injection ez' with z1 z2; subst z1 z2
  refine ⟨w, rs, s, d1, _, R, e1, fun v1 H1 w1 R1 q1 st1 => ?_⟩
  unfold lrngD at ez
  split at ez
  · rename_i i
    split at ez
    · rename_i hi
      cases ez
      cases q1
      refine ⟨i, rfl, ⟨by decide, by decide, hi.1, hi.2.1, by rw [show i - 0 = i by omega]; exact hi.2.2⟩, fun p hp => ?_⟩
      have ia : ∀ l : List Nat, IsAll c w1 H1 (l.map fun i => V.int (0 + (i : Nat))) (l.map fun (k : Nat) => D.int (0 + k)) := fun l => by
        induction l with
        | nil => exact .nil
        | cons z l ih => exact .cons (.int _) ih
      exact k _ _ _ (R1.new hp) (Is.newL (ia _) hp) (st1.trans (Step.new hp))
    · cases ez
  · cases ez
def tTys (ns : List V) : TA := fun _ H Q => Q ns H
theorem pa_tys {X : Cx} (hb : ∀ x ∈ bltNames, X.mg x = none) : ∀ (ts : List (Ty × Pos)), (∀ t ∈ ts, glb X.env.scope t.1.nm = true) → PA X (ts.map fun t => .Name t.1.nm t.2) (tTys (Ty.names (ts.map (·.1))))
  | [], _ => ⟨fun pos pins s σ H Q I h => pa_nil.run pos pins s σ H Q I h⟩
  | t :: ts, h => by
    have ht : PE X (.Name t.1.nm t.2) (tC (.ty t.1.name)) := by
      refine pe_bltn (glb_ok (h t List.mem_cons_self)) (hb _ ?_) (u := .type t.1.name) ?_ rfl ?_ ?_
      all_goals cases t.1 <;> decide +kernel
    exact pimpA (pa_cons ht (pa_tys hb ts fun z hz => h z (List.mem_cons_of_mem _ hz)) rfl) fun σ H Q q => q
theorem d_isiC {e : Expr} {k : Nat} {m : M D} (h : PE X e (tCB (fun xs H Q => ∃ a dx fs, xs = [.ref a, .ref (c.cl k)] ∧ H a = some (.ins (c.cl k) dx fs) ∧ Q (.bl true) H) (tCons (tE c m) (tCons (tC (.ref (c.cl k))) tNil)))) : PE X e (tE c (bnd m fun x => ofO ((isiCD k x).map .bl))) := pimp h fun σ H Q ⟨w, rs, s, d, s', R, e, kq⟩ => by
  obtain ⟨d1, s1, e1, e5⟩ := bnd_some.mp e
  obtain ⟨z, ez, ez'⟩ := ofO_some.mp e5
  injection ez' with z1 z2; subst z1 z2
  refine ⟨w, rs, s, d1, _, R, e1, fun v1 H1 w1 R1 q1 st1 => ?_⟩
  obtain ⟨b, eb, rfl⟩ := Option.map_eq_some_iff.mp ez
  unfold isiCD at eb
  split at eb
  · split at eb
    · rename_i hq
      cases eb
      subst hq
      cases q1 with
      | obj h1 h2 h3 r => exact ⟨_, _, _, rfl, h2, kq _ H1 w1 R1 (.bl true) st1⟩
    · cases eb
  · cases eb
theorem i_idx {m1 m2 : M D} : ∀ σ H Q, tE c (bnd m1 fun x => bnd m2 fun y => ofO (idxD x y)) σ H Q → tBM c.K "list" (rIndexD c.K) (tE c m1) (tCons (tE c m2) tNil) σ H Q := fun σ H Q ⟨w, rs, s, d, s', R, e, k⟩ => by
  obtain ⟨d1, s1, e1, e⟩ := bnd_some.mp e
  obtain ⟨d2, s2, e2, e⟩ := bnd_some.mp e
  obtain ⟨d3, e3, e⟩ := ofO_some.mp e
  cases e
  refine ⟨w, rs, s, d1, s1, R, e1, fun v1 H1 w1 R1 q1 st1 => ⟨?_, ?_⟩⟩
  · cases q1 with
    | lst h r => exact .inl ⟨rfl, _, h.sq⟩
    | _ => simp [idxD] at e3
  · refine ⟨w1, rs, s1, d2, _, R1, e2, fun v2 H2 w2 R2 q2 st2 => ?_⟩
    refine (op2_idx w2 H2 v1 v2 d1 d2 _ Q (q1.step st2) q2 e3 fun v H' w' hx q => ?_).2
    have st3 : Step w2 H2 w' H' := fun a o e _ => hx a o e
    exact k v H' w' (R2.ext hx) q ((st1.trans st2).trans st3)
theorem okPs_ok {f l : Nat} (h : okPs tb f l = true) : ∃ fi, tb.funs[f]? = some fi ∧ fi.ps.length = l := by
  unfold okPs at h
  split at h
  · rename_i fi e; exact ⟨fi, e, by simpa using h⟩
  · cases h
/-- what holds of an expression -/
def SE (X : Cx) (c : Cc) (Γ : Env) (e : E) : Prop := PE X e.py (tE c (den Γ e)) ∧ (e.noIfe = true → PT X e.py (tBo c (trM (den Γ e))))
theorem SE.of {e : E} (h : PE X e.py (tE c (den Γ e))) (he : ∀ whole, isTrue e.py X.env whole = (do let v ← whole; standAt e.py.pos; holding [v] (truthy v))) : SE X c Γ e := ⟨h, fun _ => pt_of h he⟩
def E.nb (e : E) : Prop := ∀ i x p, e ≠ .bv i x p
theorem E.bvOr (e : E) : (∃ i x p, e = .bv i x p) ∨ e.nb := by
  cases e <;> first | exact .inl ⟨_, _, _, rfl⟩ | exact .inr (fun _ _ _ h => nomatch h)
theorem opn_nb {m : M D} {e : E} (h : e.nb) : opn m e = m := by
  cases e <;> first | rfl | exact absurd rfl (h _ _ _)
theorem ok_nb {N : List Str} {sc : Scope} {e : E} (h : okE tb N sc e = true) : e.nb := fun i x p z => by subst z; rw [okE] at h; cases h
/-- an operand: looked at, or by value -/
theorem so_of {e : E} (h : okOp X.N X.env.scope (okE tb X.N X.env.scope e) e = true) (ih : okE tb X.N X.env.scope e = true → SE X c Γ e) : PE X e.py (tR c (opn (den Γ e) e)) := by
  rcases e.bvOr with ⟨i, x, p, rfl⟩ | nb
  · rw [E.py]
    exact d_bv (name_ok h)
  · rw [opn_nb nb]
    refine tE_r (ih ?_).1
    cases e <;> first | exact h | exact absurd rfl (nb _ _ _)
theorem cmpM_nb {op : CmpOp} {m m' : M D} {a : E} (nb : a.nb) : cmpM op m a m' = bnd m fun x => bnd m' fun y => ofO (cmpD op x y) := by
  cases a <;> first | rfl | exact absurd rfl (nb _ _ _)
theorem subM_nb {m m' : M D} {a : E} (nb : a.nb) : subM m a m' = bnd m fun x => bnd m' fun y => ofO (ixD x y) := by
  cases a <;> first | rfl | exact absurd rfl (nb _ _ _)
theorem attM_nb {fn : Nat → List Str} {m : M D} {a : E} {k : Nat} {f : Str} (nb : a.nb) : attM fn m a k f = bnd m fun x => ofO (attO fn k f (.leaf x)) := by
  cases a <;> first | rfl | exact absurd rfl (nb _ _ _)
theorem okOp_nb {N : List Str} {sc : Scope} {b : Bool} {a : E} (nb : a.nb) : okOp N sc b a = b := by
  cases a <;> first | rfl | exact absurd rfl (nb _ _ _)
theorem attBase {a : E} {f : Str} {env : PySem.Env} {whole : Sem Value} (h : a.base = true) : attributeBase a.py f env whole = whole := by
  cases a <;> try (rw [E.py]; rfl)
  · rename_i g x p as q
    cases as with
    | nil => simp [E.base] at h
    | val e as => rw [E.py, As.py]; rfl
    | share i y p as => rw [E.py, As.py]; rfl
  · rename_i k g x p as q
    cases as with
    | nil => simp [E.base] at h
    | val e as => rw [E.py, As.py]; rfl
    | share i y p as => rw [E.py, As.py]; rfl
  · simp [E.base] at h
theorem okFn_ok {f l : Nat} {x : Str} (h : okFn tb f x l = true) : ∃ fi, tb.funs[f]? = some fi ∧ fi.pl = true ∧ fi.x = x ∧ fi.ps.length = l := by
  unfold okFn at h
  split at h
  · rename_i fi e
    simp only [Bool.and_eq_true, decide_eq_true_eq] at h
    exact ⟨fi, e, h.1, h.2.1, h.2.2⟩
  · cases h
theorem okCl_ok {k f l : Nat} {x : Str} (h : okCl tb k x f l = true) : ∃ fi, tb.clss[k]? = some (x, f) ∧ tb.funs[f]? = some fi ∧ fi.ps.length = l + 1 := by
  unfold okCl at h
  split at h
  · rename_i y g fi e1 e2
    simp only [Bool.and_eq_true, decide_eq_true_eq] at h
    obtain ⟨⟨rfl, rfl⟩, h3⟩ := h
    exact ⟨fi, e1, e2, h3⟩
  · cases h
mutual
theorem sE : ∀ (e : E) {X : Cx}, Gd X c Γ tb n → okE tb X.N X.env.scope e = true → SE X c Γ e
  | .var i x p, X, G, ok => by
    rw [okE] at ok
    refine .of ?_ fun _ => by rw [E.py]; rfl
    rw [E.py, den]
    exact d_var (name_ok ok)
  | .bv i x p, X, G, ok => by rw [okE] at ok; cases ok
  | .con k j p, X, G, ok => by
    refine .of ?_ fun _ => by rw [E.py]; rfl
    rw [okE] at ok
    rw [E.py, den]
    cases k <;> first
      | exact d_con pe_non fun _ _ => .non
      | exact d_con pe_bl fun _ _ => .bl _
      | exact d_con pe_int fun _ _ => .int _
      | exact d_con pe_str fun _ _ => .str _
      | cases ok
  | .glo g x p, X, G, ok => by
    refine .of ?_ fun _ => by rw [E.py]; rfl
    rw [okE] at ok
    simp only [Bool.and_eq_true, decide_eq_true_eq, Bool.not_eq_true'] at ok
    rw [E.py, den]
    cases e : Γ.glob g with
    | none => exact ⟨fun pins s σ H Q I ⟨_, _, _, _, _, _, z, _⟩ => by simp [ofO, fail] at z⟩
    | some d =>
      obtain ⟨u, v, h1, h2, h3⟩ := G.glob g x d ok.1.1 e
      exact d_con (pe_glob (glb_ok ok.1.2) h1 h2 ok.2) h3
  | .tup es k p, X, G, ok => by
    refine .of ?_ fun _ => by rw [E.py]; rfl
    rw [okE] at ok
    rw [E.py, den]
    exact d_tup (pe_tup (sEs es G ok))
  | .lst es p, X, G, ok => by
    refine .of ?_ fun _ => by rw [E.py]; rfl
    rw [okE] at ok
    rw [E.py, den]
    exact d_lst (pe_lst (sEs es G ok))
  | .bin a op b p, X, G, ok => by
    refine .of ?_ fun _ => by rw [E.py]; rfl
    rw [okE, Bool.and_eq_true] at ok
    rw [E.py, den]
    exact d_two (pe_op (opr_bin op) (sE a G ok.1).1 (sE b G ok.2).1) (op2_bin op)
  | .una op a p, X, G, ok => by
    rw [okE, Bool.and_eq_true] at ok
    have ha := sE a G ok.1
    by_cases ho : op = .Not
    · subst ho
      refine ⟨?_, fun _ => ?_⟩
      · rw [E.py, den]
        exact d_not (pe_not ha.1)
      · rw [E.py, den]
        exact d_tnot (pt_not (ha.2 ok.2))
    · have hd : unaM op (den Γ a) = bnd (den Γ a) fun x => ofO (unD op x) := by
        cases op <;> first | rfl | exact absurd rfl ho
      refine .of ?_ fun _ => by rw [E.py]; cases op <;> first | rfl | exact absurd rfl ho
      rw [E.py, den, hd]
      exact d_one (pe_un (opr_un op) ha.1) (op1_un op)
  | .bop op e es p, X, G, ok => by
    rw [okE, Bool.and_eq_true, Bool.and_eq_true] at ok
    have he := sE e G ok.1.1
    have := sB es G ok.2 op p (den Γ e) e.py he.1 (he.2 ok.1.2)
    refine ⟨?_, fun _ => ?_⟩
    · rw [E.py, den]; exact this.1
    · rw [E.py, den]; exact this.2.pt
  | .cmp a op b p, X, G, ok => by
    rw [okE, Bool.and_eq_true] at ok
    have hb := so_of ok.2 (sE b G)
    have hu := units_ok G.room
    have ho := opr_cmp hu op
    rw [G.K] at ho
    rcases a.bvOr with ⟨i, x, q, rfl⟩ | nb
    · have ha : PE X (E.bv i x q).py (tVar i) := by rw [E.py]; exact name_ok ok.1
      have hr : Op2 c (Rd0 c) (Rd0 c) (cmpD op) (rCmp c.K op) := op2_cmp (fun h => h) (fun h => h) op
      refine ⟨?_, fun _ => ?_⟩
      · rw [E.py, den]
        exact pimp (pe_cmpR ho ha hb (b.nomark op)) (i_bvtwo hr)
      · rw [E.py, den]
        exact pimpT (pt_cmpR ho ha hb (b.nomark op)) fun σ H Q q => i_bvtwo hr σ H _ (i_tr σ H Q q)
    · rw [okOp_nb nb] at ok
      have ha := (sE a G ok.1).1
      have hr : Op2 c (Is c) (Rd0 c) (cmpD op) (rCmp c.K op) := op2_cmp (fun h => h.weak) (fun h => h) op
      refine ⟨?_, fun _ => ?_⟩
      · rw [E.py, den, cmpM_nb nb]
        exact pimp (pe_cmpR ho ha hb (b.nomark op)) (i_two hr)
      · rw [E.py, den, cmpM_nb nb]
        exact pimpT (pt_cmpR ho ha hb (b.nomark op)) fun σ H Q q => i_two hr σ H _ (i_tr σ H Q q)
  | .cmp2 a op b op' d p, X, G, ok => by
    rw [okE, Bool.and_eq_true, Bool.and_eq_true] at ok
    have hu := units_ok G.room
    have ho := opr_cmp hu op
    have ho' := opr_cmp hu op'
    rw [G.K] at ho ho'
    have hr : ∀ op, Op2 c (Is c) (Is c) (cmpD op) (rCmp c.K op) := op2_cmp (fun h => h.weak) (fun h => h.weak)
    have hm : lastMarks [op, op'] [b.py, d.py] = false := d.nomark op'
    refine ⟨?_, fun _ => ?_⟩
    · rw [E.py, den]
      exact pimp (pe_chain ho ho' (sE a G ok.1.1).1 (sE b G ok.1.2).1 (sE d G ok.2).1 hm) (i_chain (hr op) (hr op'))
    · rw [E.py, den]
      exact pimpT (pt_chain ho ho' (sE a G ok.1.1).1 (sE b G ok.1.2).1 (sE d G ok.2).1 hm) fun σ H Q q => i_chain (hr op) (hr op') σ H _ (i_tr σ H Q q)
  | .ife t a b p, X, G, ok => by
    rw [okE, Bool.and_eq_true, Bool.and_eq_true, Bool.and_eq_true] at ok
    refine ⟨?_, fun z => by simp [E.noIfe] at z⟩
    rw [E.py, den]
    exact d_ife (pe_ifExp ((sE t G ok.1.1.1).2 ok.1.1.2) (sE a G ok.1.2).1 (sE b G ok.2).1)
  | .sub a i p, X, G, ok => by
    rw [okE, Bool.and_eq_true] at ok
    refine .of ?_ fun _ => by rw [E.py]; rfl
    have hi := (sE i G ok.2).1
    have hx : IxR X (rIx c.K) := by rw [← G.K]; exact ix_seq
    rcases a.bvOr with ⟨j, x, q, rfl⟩ | nb
    · have ha : PE X (E.bv j x q).py (tVar j) := by rw [E.py]; exact name_ok ok.1
      rw [E.py, den]
      exact d_subB (pe_ix hx ha hi i.plainIx)
    · rw [okOp_nb nb] at ok
      rw [E.py, den, subM_nb nb]
      exact d_two (pe_ix hx (sE a G ok.1).1 hi i.plainIx) op2_ix
  | .att a k f p, X, G, ok => by
    rw [okE] at ok
    refine .of ?_ fun _ => by rw [E.py]; rfl
    rcases a.bvOr with ⟨j, x, q, rfl⟩ | nb
    · have ha : PE X (E.bv j x q).py (tVar j) := by rw [E.py]; exact name_ok ok
      rw [E.py, den]
      refine d_attB G.fnm G.cls (k := k) ?_
      rw [← G.K]
      exact pe_fld ha (attBase rfl)
    · rw [okOp_nb nb, Bool.and_eq_true] at ok
      rw [E.py, den, attM_nb nb]
      refine d_att G.fnm G.cls (k := k) ?_
      rw [← G.K]
      exact pe_fld (sE a G ok.1).1 (attBase ok.2)
  | .bi1 b p e q, X, G, ok => by
    rw [okE] at ok
    simp only [Bool.and_eq_true, decide_eq_true_eq] at ok
    refine .of ?_ fun _ => by rw [E.py]; rfl
    rw [E.py, den]
    exact d_cb1 (pe_b1 G.calm G.K ⟨ok.1.1.1.1, ok.1.1.1.2, ok.1.1.2⟩ (glb_ok ok.1.2) (G.blt _ (by cases b <;> decide +kernel)) (so_of ok.2 (sE e G))) (op1_b1 b)
  | .bi2 b p e e' q, X, G, ok => by
    rw [okE] at ok
    simp only [Bool.and_eq_true, Bool.or_eq_true, decide_eq_true_eq] at ok
    refine .of ?_ fun _ => by rw [E.py]; rfl
    rw [E.py, den]
    exact d_cb2 (pe_b2 G.calm ok.1.1.1 (glb_ok ok.1.1.2) (G.blt _ (by cases b <;> decide +kernel)) (sE e G ok.1.2).1 (sE e' G ok.2).1) (op2_b2 b)
  | .conv b p e q, X, G, ok => by
    rw [okE] at ok
    simp only [Bool.and_eq_true, Bool.or_eq_true, decide_eq_true_eq] at ok
    refine .of ?_ fun _ => by rw [E.py]; rfl
    rw [E.py, den]
    refine d_cb1 (pe_b1 G.calm G.K ?_ (glb_ok ok.1.2) (G.blt _ (by cases b <;> decide +kernel)) (sE e G ok.2).1) (op1_conv b)
    rcases ok.1.1 with z | z <;> subst z <;> exact ⟨by decide, by decide, by decide⟩
  | .mth0 m j x p1 p2 p3, X, G, ok => by
    rw [okE] at ok
    simp only [Bool.and_eq_true, Bool.or_eq_true, decide_eq_true_eq] at ok
    refine .of ?_ fun _ => by rw [E.py]; rfl
    rw [E.py, den]
    exact d_mth0 G.K ok.2 (name_ok ok.1.1) ok.1.2
  | .mth1 m j x p1 p2 e p3, X, G, ok => by
    rw [okE] at ok
    simp only [Bool.and_eq_true, Bool.or_eq_true, decide_eq_true_eq] at ok
    refine .of ?_ fun _ => by rw [E.py]; rfl
    rw [E.py, den]
    exact d_mth1 G.K ok.1.2 (name_ok ok.1.1.1) ok.1.1.2 (sE e G ok.2).1
  | .isi a t p1 p2 p3, X, G, ok => by
    rw [okE] at ok
    simp only [Bool.and_eq_true] at ok
    refine .of ?_ fun _ => by rw [E.py]; rfl
    rw [E.py, den]
    exact d_isi (pe_isi G.K (glb_ok ok.1.1) (G.blt _ (by decide +kernel)) (glb_ok ok.1.2) (G.blt _ (by cases t <;> decide +kernel)) (so_of ok.2 (sE a G)))
  | .call f x p as q, X, G, ok => by
    rw [okE] at ok
    simp only [Bool.and_eq_true, Bool.not_eq_true'] at ok
    obtain ⟨⟨⟨h1, h2⟩, h3⟩, h4⟩ := ok
    refine .of ?_ fun _ => by rw [E.py]; rfl
    cases ef : tb.funs[f]? with
    | none => rw [ef] at h1; cases h1
    | some fi =>
      rw [ef] at h1
      simp only [Bool.and_eq_true, decide_eq_true_eq] at h1
      obtain ⟨hpl, h1⟩ := h1
      obtain ⟨fa, fd, g1, g2, g3, g4, _⟩ := G.fns f fi ef hpl
      rw [h1.1] at g1
      have hroom : Room (2 * n) X.A := G.room.mono (by omega)
      have hl : ∀ s sl s', denAs Γ as s = some (sl, s') → sl.length = fi.ps.length := fun s sl s' e => by rw [As.lenOk e, h1.2]
      have hA := sAs as G h4
      rw [E.py, den]
      cases as with
      | nil =>
        rw [As.py] at hA ⊢
        refine pimp (pe_call0 (E := fun _ _ _ => False) g4 hroom (glb_ok h2) g1 g2 g3 .nil (fun _ _ _ _ _ _ _ z => z.elim) h3) fun σ H Q q => ?_
        have := i_call (E := fun _ _ _ => False) rfl hl σ H Q q
        obtain ⟨w, rs, s, sl, s', R, e, k⟩ := this
        rw [denAs] at e
        cases ret_some.mp e
        exact k [] H w R .nil (Step.refl _ _)
      | val e as =>
        rw [As.py] at hA ⊢
        exact pimp (pe_call (E := fun _ _ _ => False) g4 hroom (glb_ok h2) g1 g2 g3 .nil (fun _ _ _ _ _ _ _ z => z.elim) hA h3 (e.star _ _) (As.noStar as)) (i_call rfl hl)
      | share i y r as =>
        rw [As.py] at hA ⊢
        exact pimp (pe_call (E := fun _ _ _ => False) g4 hroom (glb_ok h2) g1 g2 g3 .nil (fun _ _ _ _ _ _ _ z => z.elim) hA h3 rfl (As.noStar as)) (i_call rfl hl)
  | .callT f x p g y p' as q' q, X, G, ok => by
    rw [okE] at ok
    simp only [Bool.and_eq_true, Bool.not_eq_true', decide_eq_true_eq] at ok
    obtain ⟨⟨⟨⟨⟨⟨⟨h1, h2⟩, h3⟩, h4⟩, h5⟩, h6⟩, h7⟩, h8⟩ := ok
    refine .of ?_ fun _ => by rw [E.py]; rfl
    obtain ⟨fi, f1, f2, f3, f4⟩ := okFn_ok h1
    obtain ⟨gi, g1, g2, g3, g4⟩ := okFn_ok h2
    obtain ⟨fa, fd, a1, a2, a3, a4, _⟩ := G.fns f fi f1 f2
    obtain ⟨ga, gd, b1, b2, b3, b4, _⟩ := G.fns g gi g1 g2
    rw [f3] at a1
    rw [g3] at b1
    have hroom : Room (2 * n) X.A := G.room.mono (by omega)
    have hl : ∀ s sl s', denAs Γ as s = some (sl, s') → sl.length = gi.ps.length := fun s sl s' e => by rw [As.lenOk e, g4]
    have hA := sAs as G h8
    rw [E.py, den]
    rw [f4] at a4
    have inner : PE X (.Call (.Name y p') as.py [] q') (tCall (spD c gi.ps.length Γ.call g) [] (fun _ _ _ => False) (tAs c (denAs Γ as))) := by
      cases as with
      | nil => exact absurd rfl h7
      | val e as =>
        rw [As.py] at hA ⊢
        exact pe_call b4 hroom (glb_ok h4) b1 b2 b3 .nil (fun _ _ _ _ _ _ _ z => z.elim) hA h6 (e.star _ _) (As.noStar as)
      | share i z r as =>
        rw [As.py] at hA ⊢
        exact pe_call b4 hroom (glb_ok h4) b1 b2 b3 .nil (fun _ _ _ _ _ _ _ z => z.elim) hA h6 rfl (As.noStar as)
    exact pimp (pe_call (E := fun _ _ _ => False) a4 hroom (glb_ok h3) a1 a2 a3 .nil (fun _ _ _ _ _ _ _ z => z.elim) (pa_cons inner pa_nil rfl) h5 rfl rfl) (i_callT hl)
  | .new k f x p as q, X, G, ok => by
    rw [okE] at ok
    simp only [Bool.and_eq_true, Bool.not_eq_true'] at ok
    obtain ⟨⟨⟨h1, h2⟩, h3⟩, h4⟩ := ok
    refine .of ?_ fun _ => by rw [E.py]; rfl
    obtain ⟨fi, f1, f2, f3⟩ := okCl_ok h1
    obtain ⟨fa, fd, a1, a2, a3, a4⟩ := G.mks k x f fi f1 f2
    have hl : ∀ s sl s', denAs Γ as s = some (sl, s') → sl.length + 1 = fi.ps.length := fun s sl s' e => by rw [As.lenOk e, f3]
    have hA := sAs as G h4
    rw [E.py, den]
    cases as with
    | nil =>
      rw [As.py] at hA ⊢
      refine pimp (pe_make0 (E := fun _ _ _ => False) a2 a4 G.room (glb_ok h2) a1 a3 .nil (fun _ _ _ _ _ _ _ z => z.elim) h3) fun σ H Q q => ?_
      have := i_new (E := fun _ _ _ => False) hl σ H Q q
      obtain ⟨w, rs, s, sl, s', R, e, kk⟩ := this
      rw [denAs] at e
      cases ret_some.mp e
      exact kk [] H w R .nil (Step.refl _ _)
    | val e as =>
      rw [As.py] at hA ⊢
      exact pimp (pe_make (E := fun _ _ _ => False) a2 a4 G.room (glb_ok h2) a1 a3 .nil (fun _ _ _ _ _ _ _ z => z.elim) hA h3 (e.star _ _) (As.noStar as)) (i_new hl)
    | share i y r as =>
      rw [As.py] at hA ⊢
      exact pimp (pe_make (E := fun _ _ _ => False) a2 a4 G.room (glb_ok h2) a1 a3 .nil (fun _ _ _ _ _ _ _ z => z.elim) hA h3 rfl (As.noStar as)) (i_new hl)
  | .comp elt t it ifs scope own p, X, G, ok => by
    rw [okE] at ok
    simp only [Bool.and_eq_true] at ok
    obtain ⟨⟨⟨⟨⟨h1, h2⟩, h3⟩, h4⟩, h5⟩, h6⟩ := ok
    refine .of ?_ fun _ => by rw [E.py]; rfl
    rw [E.py, den]
    refine d_comp (fun i hi => ?_) (pe_lc G.calm G.nd (sWk it G t h4) (blkOk_by h1) (fun s H C cl fp => ?_) (fun s H C cl fp => ?_) (fun s H C cl fp => ?_) (it.nofold _))
    · have := List.all_eq_true.mp h2 i hi
      simpa using this
    · exact sT (X := X.blk s H scope (compEnvC scope cl C X.env) fp) G.nd G.calm t h3
    · exact sIfs ifs (G.blk s H scope _ fp) h5
    · exact (sE elt (G.blk s H scope _ fp) h6).1
  | .compN elt .nil scope own p, X, G, ok => by rw [okE] at ok; cases ok
  | .compN elt (.cons t it ifs cs) scope own p, X, G, ok => by
    rw [okE] at ok
    simp only [Bool.and_eq_true] at ok
    obtain ⟨⟨⟨⟨⟨⟨h1, h2⟩, h3⟩, h4⟩, h5⟩, h6⟩, h7⟩ := ok
    have hid : ∀ i ∈ t.ids ++ cs.ids, i ∈ own.map (·.2) := fun i hi => by simpa using List.all_eq_true.mp h2 i hi
    refine .of ?_ fun _ => by rw [E.py]; rfl
    rw [E.py, Cs.py, den, denCs, compM]
    have hn : DNest ((⟨t.py, it.py, ifs.py, ⟨t, denIt Γ it, denIfs Γ ifs, own.map fun z : Str × Nat => z.2⟩⟩ : SC) :: scOf Γ cs) := by
      refine ⟨fun i hi => hid i (List.mem_append_left _ hi), ?_, nest_of Γ cs⟩
      cases cs with
      | nil => trivial
      | cons t' it' ifs' cs' => exact fun i hi => hid i (List.mem_append_right _ hi)
    have key := i_compN (c := c) (me := den Γ elt) hn
    have e1 := sc_dc Γ cs
    have e2 := sc_py Γ c cs
    rw [e1] at key
    refine pimp ?_ key
    rw [← e2]
    refine pe_lcN (own := own) (cs := (scOf Γ cs).map (SC.cl c)) (q := SC.cl c ⟨t.py, it.py, ifs.py, ⟨t, denIt Γ it, denIfs Γ ifs, own.map fun z : Str × Nat => z.2⟩⟩) G.calm G.nd (sWk it G t h4) (blkOk_by h1) rfl (it.nofold _) (cl_nest c _ hn) (fun s H C cl fp => ⟨?_, ?_, ?_⟩) fun s H C cl fp => ?_
    · exact sT (X := X.blk s H scope (compEnvC scope cl C X.env) fp) G.nd G.calm t h3
    · exact sIfs ifs (G.blk s H scope _ fp) h5
    · exact sCs cs (G.blk s H scope _ fp) h6
    · exact (sE elt (G.blk s H scope _ fp) h7).1
  | .ss p1 p2 e q2 q1, X, G, ok => by
    rw [okE] at ok
    simp only [Bool.and_eq_true] at ok
    refine .of ?_ fun _ => by rw [E.py]; rfl
    rw [E.py, den]
    have inner : PE X (.Call (.Name "set" p2) [e.py] [] q2) (tCB (rMkSet X.K X.w) (tCons (tE c (den Γ e)) tNil)) := pe_callTy (cr_setL G.calm) (glb_ok ok.1.2) (G.blt _ (by decide +kernel)) (by decide +kernel) (pa_cons (sE e G ok.2).1 pa_nil (e.star _ _)) (he := e.star _ _)
    rw [G.K] at inner
    refine d_one (r := fun x H Q => rMkSet c.K X.w [x] H fun y H2 => rSortedSet X.w [y] H2 Q) (pimp (pe_callB (cr_sortedSet G.calm) (glb_ok ok.1.1) (G.blt _ (by decide +kernel)) (by decide +kernel) (pa_cons inner pa_nil rfl) (he := rfl)) fun _ _ _ q => q) op1_ss
  | .sne p1 a q1 p2 b q2 q, X, G, ok => by
    rw [okE] at ok
    simp only [Bool.and_eq_true] at ok
    have hu := units_ok G.room
    have inner : ∀ (p q : Pos) (e : E), PE X e.py (tE c (den Γ e)) → PE X (.Call (.Name "set" p) [e.py] [] q) (tCB (rMkSet X.K X.w) (tCons (tE c (den Γ e)) tNil)) := fun p q e h => pe_callTy (cr_setL G.calm) (glb_ok ok.1.1) (G.blt _ (by decide +kernel)) (by decide +kernel) (pa_cons h pa_nil (e.star _ _)) (he := e.star _ _)
    rw [G.K] at inner
    refine ⟨?_, fun _ => ?_⟩
    · rw [E.py, den]
      exact pimp (pe_cmpR (op_sne hu) (inner p1 q1 a (sE a G ok.1.2).1) (inner p2 q2 b (sE b G ok.2).1) rfl) i_sne
    · rw [E.py, den]
      exact pimpT (pt_cmpR (op_sne hu) (inner p1 q1 a (sE a G ok.1.2).1) (inner p2 q2 b (sE b G ok.2).1) rfl) fun σ H Q q => i_sne σ H _ (i_tr σ H Q q)
  | .idx a p e q, X, G, ok => by
    rw [okE] at ok
    simp only [Bool.and_eq_true] at ok
    refine .of ?_ fun _ => by rw [E.py]; rfl
    rw [E.py, den]
    have hu := units_ok G.room
    have key := pe_bm (r := rIndexD X.K) (apos := p) (cpos := q) PySem.F.plainAttrs_list PySem.F.slot_list_index PySem.F.type_list_index (mt_indexD hu) (sE a G ok.1.1.1).1 (pa_cons (sE e G ok.2).1 pa_nil (e.star _ _)) (attBase ok.1.1.2) (by rw [e.star]; rfl) ok.1.2 (e.star _ _) rfl
    rw [G.K] at key
    exact pimp key i_idx
  | .sl a lo hi p q, X, G, ok => by
    rw [okE] at ok
    simp only [Bool.and_eq_true] at ok
    refine .of ?_ fun _ => by rw [E.py]; rfl
    rw [E.py, den]
    have hs : SlR X (rSlL c.K) := by rw [← G.K]; exact sl_list
    exact d_slice (pe_slice hs (sE a G ok.1.1).1 (sEO lo G ok.1.2) (sEO hi G ok.2))
  | .lrng p1 p2 e q2 q1, X, G, ok => by
    rw [okE] at ok
    simp only [Bool.and_eq_true] at ok
    refine .of ?_ fun _ => by rw [E.py]; rfl
    rw [E.py, den]
    exact d_lrng (pe_listRg G.calm (glb_ok ok.1.1) (G.blt _ (by decide +kernel)) (prg_1 (glb_ok ok.1.2) (G.blt _ (by decide +kernel)) (sE e G ok.2).1 (e.star _ _)) rfl)
  | .isiT a ts k p1 p2 p3, X, G, ok => by
    rw [okE] at ok
    simp only [Bool.and_eq_true, decide_eq_true_eq] at ok
    refine .of ?_ fun _ => by rw [E.py]; rfl
    rw [E.py, den]
    have hts : ∀ t ∈ ts, glb X.env.scope t.1.nm = true := fun t ht => List.all_eq_true.mp ok.1.1.1.2 t ht
    have ci : CallR X (.builtin "isinstance") (rIsiT c.K) := by rw [← G.K]; exact call_isiT
    refine d_one (P1 := Is c) (m1 := den Γ a) (f := fun d => (isiTD d (ts.map (·.1))).map .bl) (r := fun x H Q => (Ty.names (ts.map fun z : Ty × Pos => z.1)).length ≤ sizeLine ∧ ∀ p, H p = none → rIsiT c.K [x, .ref p] (upd H p (.tup (Ty.names (ts.map fun z : Ty × Pos => z.1)))) Q) (pimp (pe_callB ci (glb_ok ok.1.1.1.1) (G.blt _ (by decide +kernel)) (by decide +kernel) (pa_cons (sE a G ok.1.1.2).1 (pa_cons (pe_tup (pa_tys G.blt ts hts)) pa_nil rfl) (a.star _ _)) (he := a.star _ _)) fun _ _ _ q => q) (op1_isiT _ ?_ ?_)
    · intro z; exact ok.1.2 (List.map_eq_nil_iff.mp z)
    · unfold Ty.names; rw [List.length_map, List.length_map]; have : sizeLine = 16777216 := by rw [sizeLine_eq]
      omega
  | .isiC a k x p1 p2 p3, X, G, ok => by
    rw [okE] at ok
    simp only [Bool.and_eq_true, decide_eq_true_eq, Bool.not_eq_true'] at ok
    obtain ⟨⟨⟨⟨o1, o2⟩, o3⟩, o4⟩, o5⟩ := ok
    refine .of ?_ fun _ => by rw [E.py]; rfl
    rw [E.py, den]
    obtain ⟨g1, g2⟩ := G.inss k x o4
    exact d_isiC (pe_callB (C8.call_isC g2) (glb_ok o1) (G.blt _ (by decide +kernel)) (by decide +kernel) (pa_cons (sE a G o5).1 (pa_cons (pe_glob (v := .ref (c.cl k)) (glb_ok o2) g1 rfl o3) pa_nil rfl) (a.star _ _)) (he := a.star _ _))
  | .callK f x p ks m π q, X, G, ok => by
    rw [okE] at ok
    simp only [Bool.and_eq_true, decide_eq_true_eq, Bool.not_eq_true'] at ok
    obtain ⟨⟨⟨⟨o1, o2⟩, o3⟩, o4⟩, o5⟩ := ok
    refine .of ?_ fun _ => by rw [E.py]; rfl
    rw [E.py, den]
    obtain ⟨fi, f1, f2, f3, f4⟩ := okFn_ok o1
    obtain ⟨fa, fd, a1, a2, a3, a4, a5⟩ := G.fns f fi f1 f2
    rw [f3] at a1
    have hroom : Room (2 * n) X.A := G.room.mono (by omega)
    have key := pe_callK0 (p := p) (pos := q) a4 hroom (glb_ok o2) a1 a2 (a5 _ _ o4) (sKs ks G o5) (ks.all _ _) (ks.names _ _) o3 (ks.none _ _)
    rw [f4] at key
    exact pimp key (i_callK fun s ds s' e => ks.lenOk e)
  | .lenO k f p e q, X, G, ok => by
    rw [okE] at ok
    simp only [Bool.and_eq_true, decide_eq_true_eq] at ok
    obtain ⟨⟨⟨o1, o2⟩, o3⟩, o4⟩ := ok
    refine .of ?_ fun _ => by rw [E.py]; rfl
    rw [E.py, den]
    obtain ⟨fi, f1, f2⟩ := okPs_ok o3
    obtain ⟨fa, fd, a1, a2, a3, a4⟩ := G.lens k f fi o2 f1
    rw [f2] at a4
    exact pimp (pe_callB (call_lenO a4 G.room a1 a2 a3) (glb_ok o1) (G.blt _ (by decide +kernel)) (by decide +kernel) (pa_cons (sE e G o4).1 pa_nil (e.star _ _)) (he := e.star _ _)) i_lenO
  | .eqO k f a b p, X, G, ok => by
    rw [okE] at ok
    simp only [Bool.and_eq_true, decide_eq_true_eq] at ok
    obtain ⟨⟨⟨o2, o3⟩, o4⟩, o5⟩ := ok
    obtain ⟨fi, f1, f2⟩ := okPs_ok o3
    obtain ⟨fa, fd, a1, a2, a3, a4⟩ := G.eqs k f fi o2 f1
    rw [f2] at a4
    have hroom : Room (2 * n) X.A := G.room.mono (by omega)
    refine ⟨?_, fun _ => ?_⟩
    · rw [E.py, den]
      exact pimp (pe_cmpR (op_eqO a4 hroom a1 a2 a3) (sE a G o4).1 (sE b G o5).1 (b.nomark _)) i_eqO
    · rw [E.py, den]
      exact pimpT (pt_cmpR (op_eqO a4 hroom a1 a2 a3) (sE a G o4).1 (sE b G o5).1 (b.nomark _)) fun σ H Q q => i_eqO σ H _ (i_tr σ H Q q)
theorem sEO : ∀ (e : EO) {X : Cx}, Gd X c Γ tb n → okEO tb X.N X.env.scope e = true → PO X e.py (tOI c (denEO Γ e))
  | .no, X, G, ok => by rw [EO.py, denEO]; exact d_pno
  | .yes e, X, G, ok => by
    rw [okEO] at ok
    rw [EO.py, denEO]; exact d_pyes (sE e G ok).1
theorem sKs : ∀ (ks : Ks) {X : Cx}, Gd X c Γ tb n → okKs tb X.N X.env.scope ks = true → PK X ks.py (tL c (denKs Γ ks))
  | .nil, X, G, ok => by rw [Ks.py, denKs]; exact d_knil
  | .cons x e p ks, X, G, ok => by
    rw [okKs, Bool.and_eq_true] at ok
    rw [Ks.py, denKs]; exact d_kcons (pk_cons (sE e G ok.1).1 (sKs ks G ok.2))
theorem sCs : ∀ (cs : Cs) {X : Cx}, Gd X c Γ tb n → okCs tb X.N X.env.scope X.fn cs = true → ∀ z ∈ (scOf Γ cs).map (SC.cl c), ClOk X z
  | .nil, X, G, ok, z, hz => by rw [scOf] at hz; cases hz
  | .cons t it ifs cs, X, G, ok, z, hz => by
    rw [okCs] at ok
    simp only [Bool.and_eq_true] at ok
    rw [scOf, List.map_cons] at hz
    rcases List.mem_cons.mp hz with e | hz
    · subst e
      exact ⟨sWk it G t ok.1.1.2, sT G.nd G.calm t ok.1.1.1, sIfs ifs G ok.1.2, fun _ _ => it.nofold _ _⟩
    · exact sCs cs G ok.2 z hz
theorem sEs : ∀ (es : Es) {X : Cx}, Gd X c Γ tb n → okEs tb X.N X.env.scope es = true → PA X es.py (tL c (dens Γ es))
  | .nil, X, G, ok => by rw [Es.py, dens]; exact d_nil
  | .cons e es, X, G, ok => by
    rw [okEs, Bool.and_eq_true] at ok
    rw [Es.py, dens]
    exact d_cons (pa_cons (sE e G ok.1).1 (sEs es G ok.2) (e.star _ _))
theorem sB : ∀ (es : Es) {X : Cx}, Gd X c Γ tb n → okB tb X.N X.env.scope es = true → ∀ (op : BoolOp) (p : Pos) (m : M D) (e : Expr), PE X e (tE c m) → PT X e (tBo c (trM m)) →
    PE X (.BoolOp op (e :: es.py) p) (tE c (denB Γ op m es)) ∧ PW X (.BoolOp op (e :: es.py) p) (tBo c (trM (denB Γ op m es)))
  | .nil, X, G, ok, op, p, m, e, h, t => by
    rw [Es.py, denB]
    refine ⟨pe_one h, ?_⟩
    cases op with
    | And => exact pw_and1 t
    | Or => exact pw_or1 t
  | .cons e' es, X, G, ok, op, p, m, e, h, t => by
    rw [okB, Bool.and_eq_true, Bool.and_eq_true] at ok
    have he := sE e' G ok.1.1
    have := sB es G ok.2 op p (den Γ e') e'.py he.1 (he.2 ok.1.2)
    rw [Es.py]
    cases op with
    | And =>
      rw [denB]
      exact ⟨d_and (pe_and h this.1), pimpW (pw_and t this.2) i_tand⟩
    | Or =>
      rw [denB]
      exact ⟨d_or (pe_or h this.1), pimpW (pw_or t this.2) i_tor⟩
theorem sIfs : ∀ (es : Es) {X : Cx}, Gd X c Γ tb n → okIfs tb X.N X.env.scope es = true → PTs X es.py (tBo c (denIfs Γ es))
  | .nil, X, G, ok => by
    rw [Es.py, denIfs]
    refine ⟨fun pins s σ H Q I q => pts_nil.run pins s σ H Q I ?_⟩
    obtain ⟨w, rs, s, d, s', R, e, k⟩ := q
    cases ret_some.mp e
    exact k H w R (Step.refl _ _)
  | .cons e .nil, X, G, ok => by
    rw [okIfs, Bool.and_eq_true] at ok
    rw [Es.py, Es.py, denIfs]
    refine ⟨fun pins s σ H Q I q => (pts_one ((sE e G ok.1).2 ok.2)).run pins s σ H Q I ?_⟩
    obtain ⟨w, rs, s, d, s', R, e1, k⟩ := q
    obtain ⟨d1, s1, e2, e3⟩ := bnd_some.mp e1
    obtain ⟨b, s2, e4, e5⟩ := bnd_some.mp e3
    refine ⟨w, rs, s, b, s2, R, bnd_some.mpr ⟨_, _, e2, e4⟩, fun H' w' R' st => ?_⟩
    split at e5
    · rename_i hb
      rw [denIfs] at e5
      cases ret_some.mp e5
      subst hb
      exact k H' w' R' st
    · rename_i hb
      cases ret_some.mp e5
      rw [Bool.not_eq_true] at hb
      subst hb
      exact k H' w' R' st
  | .cons e (.cons e' es), X, G, ok => by simp [okIfs] at ok
theorem sAs : ∀ (as : As) {X : Cx}, Gd X c Γ tb n → okAs tb X.N X.env.scope as = true → PA X as.py (tAs c (denAs Γ as))
  | .nil, X, G, ok => by rw [As.py, denAs]; exact d_anil
  | .val e as, X, G, ok => by
    rw [okAs, Bool.and_eq_true] at ok
    rw [As.py, denAs]
    exact pimpA (pa_cons (sE e G ok.1).1 (sAs as G ok.2) (e.star _ _)) i_aval
  | .share i x p as, X, G, ok => by
    rw [okAs, Bool.and_eq_true] at ok
    rw [As.py, denAs]
    exact pimpA (pa_cons (name_ok ok.1) (sAs as G ok.2) rfl) i_ashare
theorem sWk : ∀ (it : Wk) {X : Cx}, Gd X c Γ tb n → ∀ t : Tg, okWk tb X.N X.env.scope (isTp t) it = true → PI X t.py it.py (tI c (denIt Γ it))
  | .e a, X, G, t, ok => by
    rw [okWk] at ok
    rw [Wk.py, denIt]
    exact d_iseq G.K (sE a G ok).1
  | .rng a p q, X, G, t, ok => by
    rw [okWk, Bool.and_eq_true] at ok
    rw [Wk.py, denIt]
    exact d_irng (pi_range1 (glb_ok ok.1) (G.blt _ (by decide +kernel)) (pa_cons (sE a G ok.2).1 pa_nil (a.star _ _)) (a.star _ _))
  | .rng2 a b p q, X, G, t, ok => by
    rw [okWk, Bool.and_eq_true, Bool.and_eq_true] at ok
    rw [Wk.py, denIt]
    exact d_irng2 (pi_range2 (glb_ok ok.1.1) (G.blt _ (by decide +kernel)) (pa_cons (sE a G ok.1.2).1 (pa_cons (sE b G ok.2).1 pa_nil (b.star _ _)) (a.star _ _)) (by rw [a.star, b.star]; rfl) (by rw [b.star]; rfl))
  | .enu a p q, X, G, t, ok => by
    rw [okWk, Bool.and_eq_true, Bool.and_eq_true] at ok
    rw [Wk.py, denIt]
    cases t with
    | nm => simp [isTp] at ok
    | tp ts k pp =>
      rw [Tg.py]
      exact d_ienu G.K (pi_enum (glb_ok ok.1.1) (G.blt _ (by decide +kernel)) (pa_cons (sE a G ok.1.2).1 pa_nil (a.star _ _)) (a.star _ _))
end
end
end Dm

/-! The D machine: statements. -/
namespace Dm
open PySem L2 PyProof.Rows

def endOf (c : Cc) (D : Ends) (w' : Wm) (σ' : L2.St) (H' : Hp) : Fl → Prop
  | .nx => D.nx σ' H'
  | .bk => D.bk σ' H'
  | .ct => D.ct σ' H'
  | .rt o => ∀ v, IsO c w' H' row v o → D.rt v H'
/-- a statement: the value that is returned stands at a place of its own -/
def tS (c : Cc) (m : M Fl) : TS := fun D σ H => ∃ w rs s fl s', Rel c w rs s σ H ∧ m s = some (fl, s') ∧ ∀ σ' H' w', Rel c w' rs s' σ' H' → Step w H w' H' → match fl with
  | .nx => D.nx σ' H'
  | .bk => D.bk σ' H'
  | .ct => D.ct σ' H'
  | .rt o => ∀ v, IsO c w' H' row v o → D.rt v H'
section
variable {X : Cx} {c : Cc} {Γ : Env} {tb : Tb} {n : Nat} {st : Stmt} {sts : List Stmt}
theorem pimpS {t t' : TS} (h : PS X st t) (k : ∀ D σ H, t' D σ H → t D σ H) : PS X st t' := ⟨fun pins s σ H D I q => h.run pins s σ H D I (k D σ H q)⟩
theorem pimpSs {t t' : TS} (h : PSs X sts t) (k : ∀ D σ H, t' D σ H → t D σ H) : PSs X sts t' := ⟨fun pins s σ H D I q => h.run pins s σ H D I (k D σ H q)⟩
theorem s_nil : PSs X [] (tS c (ret .nx)) := pimpSs pss_nil fun D σ H ⟨w, rs, s, fl, s', R, e, k⟩ => by
  cases ret_some.mp e
  exact k σ H w R (Step.refl _ _)
theorem s_cons {m m' : M Fl} (h : PS X st (tS c m)) (h' : PSs X sts (tS c m')) : PSs X (st :: sts) (tS c (andThen m m')) := pimpSs (pss_cons h h') fun D σ H ⟨w, rs, s, fl, s', R, e, k⟩ => by
  obtain ⟨f1, s1, e1, e2⟩ := bnd_some.mp e
  refine ⟨w, rs, s, f1, s1, R, e1, fun σ1 H1 w1 R1 st1 => ?_⟩
  cases f1 with
  | nx => exact ⟨w1, rs, s1, fl, s', R1, e2, fun σ2 H2 w2 R2 st2 => k σ2 H2 w2 R2 (st1.trans st2)⟩
  | bk => cases ret_some.mp e2; exact k σ1 H1 w1 R1 st1
  | ct => cases ret_some.mp e2; exact k σ1 H1 w1 R1 st1
  | rt o => cases ret_some.mp e2; exact k σ1 H1 w1 R1 st1
theorem s_pass {p : Pos} : PS X (.Pass p) (tS c (ret .nx)) := pimpS ps_pass fun D σ H ⟨w, rs, s, fl, s', R, e, k⟩ => by
  cases ret_some.mp e
  exact k σ H w R (Step.refl _ _)
theorem s_exp {m : M D} (h : PS X st (tDrop (tE c m))) : PS X st (tS c (bnd m fun _ => ret .nx)) := pimpS h fun D σ H ⟨w, rs, s, fl, s', R, e, k⟩ => by
  obtain ⟨d, s1, e1, e2⟩ := bnd_some.mp e
  cases ret_some.mp e2
  exact ⟨w, rs, s, d, _, R, e1, fun v H1 w1 R1 q st1 => k σ H1 w1 R1 st1⟩
theorem s_asg {m : M D} {t : Tg} (h : PS X st (tAsg (tE c m) (tG c t))) : PS X st (tS c (bnd m fun d => bnd (setT t d) fun _ => ret .nx)) := pimpS h fun D σ H ⟨w, rs, s, fl, s', R, e, k⟩ => by
  obtain ⟨d, s1, e1, e2⟩ := bnd_some.mp e
  obtain ⟨_, s2, e3, e4⟩ := bnd_some.mp e2
  cases ret_some.mp e4
  exact ⟨w, rs, s, d, s1, R, e1, fun v H1 w1 R1 q st1 => ⟨w1, rs, s1, d, _, R1, q, e3, fun σ' R' a => k σ' H1 w1 R' st1⟩⟩
theorem s_if {m : M Bool} {ma mb : M Fl} (h : PS X st (tIfS (tBo c m) (tS c ma) (tS c mb))) : PS X st (tS c (bnd m fun t => if t then ma else mb)) := pimpS h fun D σ H ⟨w, rs, s, fl, s', R, e, k⟩ => by
  obtain ⟨b, s1, e1, e2⟩ := bnd_some.mp e
  refine ⟨w, rs, s, b, s1, R, e1, fun H1 w1 R1 st1 => ?_⟩
  split at e2
  · rename_i hb
    rw [if_pos hb]
    exact ⟨w1, rs, s1, fl, s', R1, e2, fun σ2 H2 w2 R2 st2 => k σ2 H2 w2 R2 (st1.trans st2)⟩
  · rename_i hb
    rw [if_neg hb]
    exact ⟨w1, rs, s1, fl, s', R1, e2, fun σ2 H2 w2 R2 st2 => k σ2 H2 w2 R2 (st1.trans st2)⟩
theorem s_ret {m : M D} (h : PS X st (tRet (tE c m))) : PS X st (tS c (bnd m fun d => ret (.rt (.leaf d)))) := pimpS h fun D σ H ⟨w, rs, s, fl, s', R, e, k⟩ => by
  obtain ⟨d, s1, e1, e2⟩ := bnd_some.mp e
  cases ret_some.mp e2
  exact ⟨w, rs, s, d, _, R, e1, fun v H1 w1 R1 q st1 => k σ H1 w1 R1 st1 v (.leaf q)⟩
theorem s_bad : PS X st (tS c fail) := ⟨fun _ _ _ _ _ _ ⟨_, _, _, _, _, _, e, _⟩ => (fail_some.mp e).elim⟩
/-- while -/
theorem s_while {mc : M Bool} {mb : M Fl} {N : Nat} (h : PS X st (tWhile (tBo c mc) (tS c mb))) : PS X st (tS c (whileM mc mb N)) := pimpS h fun D σ H ⟨w, rs, s, fl, s', R, e, k⟩ => by
  refine ⟨fun m σ1 H1 => ∃ w1 s1, Rel c w1 rs s1 σ1 H1 ∧ Step w H w1 H1 ∧ whileM mc mb m s1 = some (fl, s'), ⟨N, w, s, R, Step.refl _ _, e⟩, ?_⟩
  rintro m σ1 H1 ⟨w1, s1, R1, st1, e1⟩
  cases m with
  | zero => rw [whileM] at e1; exact (fail_some.mp e1).elim
  | succ m =>
    rw [whileM] at e1
    obtain ⟨b, s2, e2, e3⟩ := bnd_some.mp e1
    refine ⟨w1, rs, s1, b, s2, R1, e2, fun H2 w2 R2 st2 => ?_⟩
    split at e3
    · rename_i hb
      rw [if_pos hb]
      refine ⟨fun σ' H' => ∃ w1 s1, Rel c w1 rs s1 σ' H' ∧ Step w H w1 H' ∧ whileM mc mb m s1 = some (fl, s'), fun σ' H' z => ⟨m, Nat.lt_succ_self m, z⟩, ?_⟩
      obtain ⟨f3, s3, e4, e5⟩ := bnd_some.mp e3
      refine ⟨w2, rs, s2, f3, s3, R2, e4, fun σ4 H4 w4 R4 st4 => ?_⟩
      have stt := (st1.trans st2).trans st4
      cases f3 with
      | nx => exact ⟨w4, s3, R4, stt, e5⟩
      | ct => exact ⟨w4, s3, R4, stt, e5⟩
      | bk => cases ret_some.mp e5; exact k σ4 H4 w4 R4 stt
      | rt o => cases ret_some.mp e5; exact k σ4 H4 w4 R4 stt
    · rename_i hb
      rw [if_neg hb]
      cases ret_some.mp e3
      exact k σ1 H2 w2 R2 (st1.trans st2)
/-- for -/
theorem s_for {t : Tg} {mi : M (List D)} {mb : M Fl} (h : PS X st (tFor (tI c mi) (tG c t) (tS c mb))) : PS X st (tS c (bnd mi fun items => forM t mb items)) := pimpS h fun D σ H ⟨w, rs, s, fl, s', R, e, k⟩ => by
  obtain ⟨items, s0, e0, e1⟩ := bnd_some.mp e
  refine ⟨w, rs, s, items, s0, R, e0, fun J H1 w1 R1 wd st1 => ?_⟩
  refine ⟨fun i m σ2 H2 => m = items.length - i ∧ i ≤ items.length ∧ ∃ w2 s2, Rel c w2 rs s2 σ2 H2 ∧ Step w1 H1 w2 H2 ∧ forM t mb (items.drop i) s2 = some (fl, s'), ⟨items.length, by simp, Nat.zero_le _, w1, s0, R1, Step.refl _ _, by simpa using e1⟩, ?_⟩
  rintro i m σ2 H2 ⟨rfl, hi, w2, s2, R2, st2, e2⟩
  obtain ⟨ws, wg⟩ := wd w2 H2 st2.n
  by_cases hlt : i < items.length
  · have eg : items[i]? = some items[i] := by simp [hlt]
    obtain ⟨g1, g2⟩ := wg i _ eg
    refine .inr ⟨g1, fun σ' H' => i + 1 ≤ items.length ∧ ∃ w2 s2, Rel c w2 rs s2 σ' H' ∧ Step w1 H1 w2 H' ∧ forM t mb (items.drop (i + 1)) s2 = some (fl, s'), fun σ' H' z => ⟨items.length - (i + 1), by omega, rfl, z⟩, fun x H3 y => ?_⟩
    obtain ⟨w3, sm3, q3⟩ := g2 x H3 y
    rw [List.drop_eq_getElem_cons hlt, forM] at e2
    obtain ⟨_, s3, e3, e4⟩ := bnd_some.mp e2
    obtain ⟨f5, s5, e5, e6⟩ := bnd_some.mp e4
    refine ⟨w3, rs, s2, _, s3, R2.ext sm3, q3, e3, fun σ4 R4 ag => ?_⟩
    refine ⟨w3, rs, s3, f5, s5, R4, e5, fun σ6 H6 w6 R6 st6 => ?_⟩
    have stt : Step w1 H1 w6 H6 := (st2.trans sm3.step).trans st6
    cases f5 with
    | nx => exact ⟨hlt, w6, s5, R6, stt, e6⟩
    | ct => exact ⟨hlt, w6, s5, R6, stt, e6⟩
    | bk => cases ret_some.mp e6; exact k σ6 H6 w6 R6 (st1.trans stt)
    | rt o => cases ret_some.mp e6; exact k σ6 H6 w6 R6 (st1.trans stt)
  · have ei : i = items.length := by omega
    subst ei
    rw [List.drop_length, forM] at e2
    cases ret_some.mp e2
    exact .inl ⟨ws, k σ2 H2 w2 R2 (st1.trans st2)⟩
end
end Dm

/-! The D machine: new lists, and new lists of new lists. -/
namespace Dm
open PySem L2 PyProof.Rows
/-- a new place -/
def Fresh (w : Wm) (H : Hp) (p : Addr) : Prop := ∀ a o, H a = some o → (w a = .no ∨ w a = .out) → a ≠ p
def wset (w : Wm) (p : Addr) (x : Ow) : Wm := fun a => if a = p then x else w a
theorem wset_same {w : Wm} {p : Addr} {x : Ow} : wset w p x p = x := by unfold wset; rw [if_pos rfl]
theorem wset_ne {w : Wm} {p a : Addr} {x : Ow} (h : a ≠ p) : wset w p x a = w a := by unfold wset; rw [if_neg h]
theorem Step.relabel {w w' : Wm} {H H' : Hp} {p : Addr} {x : Ow} (st : Step w H w' H') (f : Fresh w H p) : Step w H (wset w' p x) H' := fun a o h k => by
  obtain ⟨h1, h2⟩ := st a o h k
  exact ⟨h1, by rw [wset_ne (f a o h k)]; exact h2⟩
def tF (c : Cc) (m : M (List D)) : TE := fun σ H Q => ∃ w rs s ds s', Rel c w rs s σ H ∧ m s = some (ds, s') ∧
  ∀ p vs H' w', Rel c w' rs s' σ H' → H' p = some (.lst vs) → w' p = .out → IsAll c w' H' vs ds → Fresh w H p → Step w H w' H' → Q (.ref p) H'
section
variable {X : Cx} {c : Cc} {Γ : Env} {tb : Tb} {n : Nat} {st : Stmt} {sts : List Stmt} {e : Expr} {w : Wm} {rs : List V} {s : St} {σ : L2.St} {H : Hp}
theorem fresh_of {w w1 : Wm} {H H1 : Hp} {p : Addr} (st : Step w H w1 H1) (hp : H1 p = none) : Fresh w H p := fun a o h k z => by
  subst z
  rw [(st a o h k).1] at hp
  cases hp
/-- rows that wait -/
inductive RowsP (c : Cc) (w : Wm) (H : Hp) : List Addr → List (List D) → Prop
  | nil : RowsP c w H [] []
  | cons {a : Addr} {us : List V} {ps : List Addr} {ds : List D} {dss : List (List D)} : H a = some (.lst us) → IsAll c w H us ds → RowsP c w H ps dss → RowsP c w H (a :: ps) (ds :: dss)
theorem RowsP.length {w : Wm} {H : Hp} : ∀ {ps : List Addr} {dss : List (List D)}, RowsP c w H ps dss → ps.length = dss.length
  | _, _, .nil => rfl
  | _, _, .cons _ _ r => by rw [List.length_cons, List.length_cons, RowsP.length r]
theorem RowsP.has {w : Wm} {H : Hp} : ∀ {ps : List Addr} {dss : List (List D)}, RowsP c w H ps dss → ∀ a ∈ ps, ∃ o, H a = some o
  | _, _, .nil, a, h => nomatch h
  | _, _, .cons h _ r, a, ha => by
    rcases List.mem_cons.mp ha with rfl | ha
    · exact ⟨_, h⟩
    · exact RowsP.has r a ha
theorem RowsP.stepW {w w' : Wm} {H H' : Hp} (st : StepN w H w' H') : ∀ {ps : List Addr} {dss : List (List D)}, (∀ a ∈ ps, ∀ o, H a = some o → H' a = some o) → RowsP c w H ps dss → RowsP c w' H' ps dss
  | _, _, _, .nil => .nil
  | _, _, hk, .cons h q r => .cons (hk _ List.mem_cons_self _ h) (q.stepN st) (RowsP.stepW st (fun a ha => hk a (List.mem_cons_of_mem _ ha)) r)
theorem RowsP.step {w w' : Wm} {H H' : Hp} (st : Step w H w' H') {ps : List Addr} {dss : List (List D)} (r : RowsP c w H ps dss) (ho : ∀ a ∈ ps, w a = .out) : RowsP c w' H' ps dss :=
  r.stepW st.n fun a ha o h => (st a o h (.inr (ho a ha))).1
theorem RowsP.upd {w : Wm} {H : Hp} {p : Addr} {o' : HO} (st : StepN w H w (L2.upd H p o')) {ps : List Addr} {dss : List (List D)} (r : RowsP c w H ps dss) (ne : ∀ a ∈ ps, a ≠ p) : RowsP c w (L2.upd H p o') ps dss :=
  r.stepW st fun a ha o h => by rw [upd_ne (ne a ha)]; exact h
theorem RowsP.append {w : Wm} {H : Hp} : ∀ {ps qs : List Addr} {dss ess : List (List D)}, RowsP c w H ps dss → RowsP c w H qs ess → RowsP c w H (ps ++ qs) (dss ++ ess)
  | _, _, _, _, .nil, r => r
  | _, _, _, _, .cons h q r, r' => .cons h q (RowsP.append r r')
def tRw (c : Cc) (m : M (List (List D))) : TE := fun σ H Q => ∃ w rs s dss s', Rel c w rs s σ H ∧ m s = some (dss, s') ∧
  ∀ p ps H' w', Rel c w' rs s' σ H' → H' p = some (.lst (ps.map V.ref)) → RowsP c w' H' ps dss → (p :: ps).Nodup → (∀ a ∈ p :: ps, w' a = .out ∧ Fresh w H a) → Step w H w' H' → Q (.ref p) H'
theorem i_compF {tg : Tg} {ids : List Nat} {mi : M (List D)} {mt : M Bool} {me : M D} (hid : ∀ i ∈ tg.ids, i ∈ ids) :
    ∀ σ H Q, tF c (bnd mi fun items => inBlk ids (runItems ids tg (bnd mt fun b => if b then bnd me fun d => ret [d] else ret []) items)) σ H Q → tLc (tI c mi) (tG c tg) (tBo c mt) (tE c me) ids σ H Q := fun σ H Q ⟨w, rs, s, d, s', R, e, k⟩ => by
  obtain ⟨items, s1, e1, e2⟩ := bnd_some.mp e
  unfold inBlk at e2
  split at e2
  · rename_i ds s2 e3
    split at e2
    · rename_i hz
      cases e2
      refine ⟨w, rs, s, items, s1, R, e1, fun J H1 w1 R1 wd st1 A0 hA => ?_⟩
      let body : M (List D) := bnd mt fun b => if b then bnd me fun d => ret [d] else ret []
      let Wp : Nat → Hp → Prop := fun i H => i ≤ items.length ∧ ∃ w2 sI acc as, Rel c w2 rs { sI with L := wipeL sI.L ids } (L2.wipe σ ids) H ∧ H A0 = some (.lst acc) ∧ w2 A0 = .out ∧ IsAll c w2 H acc as ∧
        StepN w1 H1 w2 H ∧ (∀ a o, H1 a = some o → w1 a = .out → H a = some o ∧ w2 a = .out) ∧ ∃ zs, runItems ids tg body (items.drop i) sI = some (zs, s2) ∧ as ++ zs = d
      have W0 : Wp 0 (upd H1 A0 (.lst [])) := by
        refine ⟨Nat.zero_le _, wout w1 A0, s1, [], [], ?_, upd_same, wout_same, .nil, (Same2.wout hA).step.n, fun a o h k => ?_, d, by simpa using e3, rfl⟩
        · exact (R1.ext (Same2.wout hA)).wipe ids
        · have := Same2.wout (o := .lst []) (w := w1) hA a o h
          exact ⟨this.1, this.2.trans k⟩
      refine ⟨fun i m H => m = items.length - i ∧ Wp i H, ⟨items.length, by simp, W0⟩, ?_⟩
      rintro i m H2 ⟨rfl, hi, w2, sI, acc, as, R2, hacc, hw2, ra, st2, so2, zs, ez, ed⟩
      have stp : Step w1 H1 w2 H2 := fun a o h k => by
        rcases k with k | k
        · exact ⟨(st2 a o h k).1, (st2 a o h k).2.trans k.symm⟩
        · exact ⟨(so2 a o h k).1, (so2 a o h k).2.trans k.symm⟩
      obtain ⟨wstop, wgo⟩ := wd w2 H2 stp.n
      by_cases hlt : i < items.length
      · refine .inr ?_
        have eg : items[i]? = some items[i] := by simp [hlt]
        obtain ⟨g1, g2⟩ := wgo i _ eg
        refine ⟨g1, Wp (i + 1), fun H' hW => ⟨items.length - (i + 1), by omega, rfl, hW⟩, fun x H3 y => ?_⟩
        obtain ⟨w3, sm3, q3⟩ := g2 x H3 y
        -- the machine's turn
        rw [List.drop_eq_getElem_cons hlt, runItems] at ez
        obtain ⟨_, t1, ez1, ez⟩ := bnd_some.mp ez
        cases ez1
        obtain ⟨_, t2, ez2, ez⟩ := bnd_some.mp ez
        obtain ⟨ys, t3, ez3, ez⟩ := bnd_some.mp ez
        obtain ⟨zs', t4, ez4, ez⟩ := bnd_some.mp ez
        cases ret_some.mp ez
        obtain ⟨b, t5, eb, ey⟩ := bnd_some.mp ez3
        have R3 := R2.ext sm3
        have acc3 : H3 A0 = some (.lst acc) := (sm3 _ _ hacc).1
        have out3 : w3 A0 = .out := (sm3 _ _ hacc).2.trans hw2
        refine ⟨w3, rs, _, _, t2, R3, q3, ez2, fun σ4 R4 ag => ⟨?_, ?_⟩⟩
        · rw [wipe_of_agree ag hid, wipe_wipe]
        refine ⟨w3, rs, t2, b, t5, R4, eb, fun H5 w5 R5 st5 => ?_⟩
        have so5 : Step w2 H2 w5 H5 := sm3.step.trans st5
        have fin : ∀ {w6 : Wm} {H6 : Hp} {t6 : St} {acc' : List V} {as' : List D}, Rel c w6 rs t6 σ4 H6 → H6 A0 = some (.lst acc') → w6 A0 = .out → IsAll c w6 H6 acc' as' → StepN w1 H1 w6 H6 → (∀ a o, H1 a = some o → w1 a = .out → H6 a = some o ∧ w6 a = .out) →
            runItems ids tg body (items.drop (i + 1)) t6 = some (zs', s2) → as' ++ zs' = d → Wp (i + 1) H6 := by
          intro w6 H6 t6 acc' as' r1 r2 r3 r4 r5 r6 r7 r8
          refine ⟨hlt, w6, t6, acc', as', ?_, r2, r3, r4, r5, r6, zs', r7, r8⟩
          have := r1.wipe ids
          rw [wipe_of_agree ag hid, wipe_wipe] at this
          exact this
        have ws5 := stp.trans so5
        have hA5 : H5 A0 = some (.lst acc) ∧ w5 A0 = .out := by
          have := st5 A0 _ acc3 (.inr out3)
          exact ⟨this.1, this.2.trans out3⟩
        dsimp only
        split at ey
        · rename_i hb
          rw [if_pos hb]
          obtain ⟨d6, t6, e6, ey⟩ := bnd_some.mp ey
          cases ret_some.mp ey
          refine ⟨w5, rs, t5, d6, _, R5, e6, fun v6 H6 w6 R6 q6 st6 => ⟨acc, ?_, ?_, ?_⟩⟩
          · exact (st6 _ _ hA5.1 (.inr hA5.2)).1
          · have := ra.length
            have h2 : (as ++ ([d6] ++ zs')).length ≤ sizeLine := by rw [ed]; exact hz
            rw [List.length_append, List.length_append, List.length_singleton] at h2
            omega
          · have hA6 := st6 _ _ hA5.1 (.inr hA5.2)
            have o6 : w6 A0 = .out := hA6.2.trans hA5.2
            have gN : StepN w6 H6 w6 (upd H6 A0 (.lst (acc ++ [v6]))) := StepN.grow o6
            have ws6 := ws5.trans st6
            refine fin (as' := as ++ [d6]) (R6.grow o6) upd_same o6 ?_ ?_ ?_ ez4 (by rw [← ed]; simp)
            · exact ((ra.step (so5.trans st6)).append (.cons q6 .nil)).stepN gN
            · exact fun a o h k => gN a o (ws6.n a o h k).1 (ws6.n a o h k).2
            · intro a o h k
              have ne : a ≠ A0 := ne_of_none h hA
              have z := ws6 a o h (.inr k)
              exact ⟨by rw [upd_ne ne]; exact z.1, z.2.trans k⟩
        · rename_i hb
          rw [if_neg hb]
          cases ret_some.mp ey
          exact fin R5 hA5.1 hA5.2 (ra.step so5) ws5.n (fun a o h k => ⟨(ws5 a o h (.inr k)).1, (ws5 a o h (.inr k)).2.trans k⟩) ez4 (by rw [← ed]; rfl)
      · have ei : i = items.length := by omega
        subst ei
        refine .inl ⟨wstop, ?_⟩
        rw [List.drop_length, runItems] at ez
        cases ret_some.mp ez
        rw [List.append_nil] at ed
        subst ed
        exact k A0 _ H2 w2 (R1.back R2 stp) hacc hw2 ra (fresh_of st1 hA) (st1.trans stp)
    · cases e2
  · cases e2
theorem i_compR {tg : Tg} {ids : List Nat} {mi : M (List D)} {mt : M Bool} {me : M (List D)} (hid : ∀ i ∈ tg.ids, i ∈ ids) :
    ∀ σ H Q, tRw c (bnd mi fun items => inBlk ids (runItems ids tg (bnd mt fun b => if b then bnd me fun d => ret [d] else ret []) items)) σ H Q → tLc (tI c mi) (tG c tg) (tBo c mt) (tF c me) ids σ H Q := fun σ H Q ⟨w, rs, s, d, s', R, e, k⟩ => by
  obtain ⟨items, s1, e1, e2⟩ := bnd_some.mp e
  unfold inBlk at e2
  split at e2
  · rename_i ds s2 e3
    split at e2
    · rename_i hz
      cases e2
      refine ⟨w, rs, s, items, s1, R, e1, fun J H1 w1 R1 wd st1 A0 hA => ?_⟩
      let body : M (List (List D)) := bnd mt fun b => if b then bnd me fun d => ret [d] else ret []
      let Wp : Nat → Hp → Prop := fun i H => i ≤ items.length ∧ ∃ w2 sI acc as ps, Rel c w2 rs { sI with L := wipeL sI.L ids } (L2.wipe σ ids) H ∧ H A0 = some (.lst acc) ∧ w2 A0 = .out ∧ acc = ps.map V.ref ∧ RowsP c w2 H ps as ∧ ps.Nodup ∧ (∀ a ∈ ps, w2 a = .out ∧ a ≠ A0 ∧ Fresh w1 H1 a) ∧
        StepN w1 H1 w2 H ∧ (∀ a o, H1 a = some o → w1 a = .out → H a = some o ∧ w2 a = .out) ∧ ∃ zs, runItems ids tg body (items.drop i) sI = some (zs, s2) ∧ as ++ zs = d
      have W0 : Wp 0 (upd H1 A0 (.lst [])) := by
        refine ⟨Nat.zero_le _, wout w1 A0, s1, [], [], [], ?_, upd_same, wout_same, rfl, .nil, .nil, (fun _ h => (List.not_mem_nil h).elim), (Same2.wout hA).step.n, fun a o h k => ?_, d, by simpa using e3, rfl⟩
        · exact (R1.ext (Same2.wout hA)).wipe ids
        · have := Same2.wout (o := .lst []) (w := w1) hA a o h
          exact ⟨this.1, this.2.trans k⟩
      refine ⟨fun i m H => m = items.length - i ∧ Wp i H, ⟨items.length, by simp, W0⟩, ?_⟩
      rintro i m H2 ⟨rfl, hi, w2, sI, acc, as, ps, R2, hacc, hw2, eacc, ra, nd, hps, st2, so2, zs, ez, ed⟩
      have stp : Step w1 H1 w2 H2 := fun a o h k => by
        rcases k with k | k
        · exact ⟨(st2 a o h k).1, (st2 a o h k).2.trans k.symm⟩
        · exact ⟨(so2 a o h k).1, (so2 a o h k).2.trans k.symm⟩
      obtain ⟨wstop, wgo⟩ := wd w2 H2 stp.n
      by_cases hlt : i < items.length
      · refine .inr ?_
        have eg : items[i]? = some items[i] := by simp [hlt]
        obtain ⟨g1, g2⟩ := wgo i _ eg
        refine ⟨g1, Wp (i + 1), fun H' hW => ⟨items.length - (i + 1), by omega, rfl, hW⟩, fun x H3 y => ?_⟩
        obtain ⟨w3, sm3, q3⟩ := g2 x H3 y
        -- the machine's turn
        rw [List.drop_eq_getElem_cons hlt, runItems] at ez
        obtain ⟨_, t1, ez1, ez⟩ := bnd_some.mp ez
        cases ez1
        obtain ⟨_, t2, ez2, ez⟩ := bnd_some.mp ez
        obtain ⟨ys, t3, ez3, ez⟩ := bnd_some.mp ez
        obtain ⟨zs', t4, ez4, ez⟩ := bnd_some.mp ez
        cases ret_some.mp ez
        obtain ⟨b, t5, eb, ey⟩ := bnd_some.mp ez3
        have R3 := R2.ext sm3
        have acc3 : H3 A0 = some (.lst acc) := (sm3 _ _ hacc).1
        have out3 : w3 A0 = .out := (sm3 _ _ hacc).2.trans hw2
        refine ⟨w3, rs, _, _, t2, R3, q3, ez2, fun σ4 R4 ag => ⟨?_, ?_⟩⟩
        · rw [wipe_of_agree ag hid, wipe_wipe]
        refine ⟨w3, rs, t2, b, t5, R4, eb, fun H5 w5 R5 st5 => ?_⟩
        have so5 : Step w2 H2 w5 H5 := sm3.step.trans st5
        have fin : ∀ {w6 : Wm} {H6 : Hp} {t6 : St} {ps' : List Addr} {as' : List (List D)}, Rel c w6 rs t6 σ4 H6 → H6 A0 = some (.lst (ps'.map V.ref)) → w6 A0 = .out → RowsP c w6 H6 ps' as' → ps'.Nodup → (∀ a ∈ ps', w6 a = .out ∧ a ≠ A0 ∧ Fresh w1 H1 a) → StepN w1 H1 w6 H6 → (∀ a o, H1 a = some o → w1 a = .out → H6 a = some o ∧ w6 a = .out) →
            runItems ids tg body (items.drop (i + 1)) t6 = some (zs', s2) → as' ++ zs' = d → Wp (i + 1) H6 := by
          intro w6 H6 t6 ps' as' r1 r2 r3 r4 rn rp r5 r6 r7 r8
          refine ⟨hlt, w6, t6, _, as', ps', ?_, r2, r3, rfl, r4, rn, rp, r5, r6, zs', r7, r8⟩
          have := r1.wipe ids
          rw [wipe_of_agree ag hid, wipe_wipe] at this
          exact this
        have ws5 := stp.trans so5
        have hA5 : H5 A0 = some (.lst acc) ∧ w5 A0 = .out := by
          have := st5 A0 _ acc3 (.inr out3)
          exact ⟨this.1, this.2.trans out3⟩
        dsimp only
        split at ey
        · rename_i hb
          rw [if_pos hb]
          obtain ⟨d6, t6, e6, ey⟩ := bnd_some.mp ey
          cases ret_some.mp ey
          refine ⟨w5, rs, t5, d6, _, R5, e6, fun p6 us6 H6 w6 R6 hp6 hw6 q6 f6 st6 => ⟨acc, ?_, ?_, ?_⟩⟩
          · exact (st6 _ _ hA5.1 (.inr hA5.2)).1
          · have := ra.length
            have h2 : (as ++ ([d6] ++ zs')).length ≤ sizeLine := by rw [ed]; exact hz
            rw [List.length_append, List.length_append, List.length_singleton] at h2
            rw [eacc, List.length_map]
            omega
          · have hA6 := st6 _ _ hA5.1 (.inr hA5.2)
            have o6 : w6 A0 = .out := hA6.2.trans hA5.2
            have gN : StepN w6 H6 w6 (upd H6 A0 (.lst (acc ++ [.ref p6]))) := StepN.grow o6
            have ws6 := ws5.trans st6
            have so6 : Step w2 H2 w6 H6 := so5.trans st6
            have n6 : p6 ≠ A0 := fun z => f6 A0 _ hA5.1 (.inr hA5.2) z.symm
            have hps6 : ∀ a ∈ ps, w6 a = .out ∧ a ≠ A0 ∧ Fresh w1 H1 a := fun a ha => by
              obtain ⟨z1, z2, z3⟩ := hps a ha
              obtain ⟨o, ho⟩ := ra.has a ha
              exact ⟨(so6 a o ho (.inr z1)).2.trans z1, z2, z3⟩
            have np : p6 ∉ ps := fun hp => by
              obtain ⟨o, ho⟩ := ra.has p6 hp
              have z := so5 p6 o ho (.inr (hps p6 hp).1)
              exact f6 p6 o z.1 (.inr (z.2.trans (hps p6 hp).1)) rfl
            have e7 : acc ++ [V.ref p6] = (ps ++ [p6]).map V.ref := by rw [eacc, List.map_append]; rfl
            refine fin (ps' := ps ++ [p6]) (as' := as ++ [d6]) (R6.grow o6) (by rw [← e7]; exact upd_same) o6 ?_ ?_ ?_ ?_ ?_ ez4 (by rw [← ed]; simp)
            · refine ((ra.step so6 fun a ha => (hps a ha).1).append (.cons hp6 q6 .nil)).upd gN fun a ha => ?_
              rcases List.mem_append.mp ha with ha | ha
              · exact (hps a ha).2.1
              · rw [List.mem_singleton] at ha; rw [ha]; exact n6
            · rw [List.nodup_append]
              refine ⟨nd, by simp, fun a ha b hb => ?_⟩
              rw [List.mem_singleton] at hb
              subst hb
              exact fun z => np (z ▸ ha)
            · intro a ha
              rcases List.mem_append.mp ha with ha | ha
              · exact hps6 a ha
              · rw [List.mem_singleton] at ha; subst ha
                exact ⟨hw6, n6, fun b o hb kb => f6 b o (ws5 b o hb kb).1 (by rw [(ws5 b o hb kb).2]; exact kb)⟩
            · exact fun a o h k => gN a o (ws6.n a o h k).1 (ws6.n a o h k).2
            · intro a o h k
              have ne : a ≠ A0 := ne_of_none h hA
              have z := ws6 a o h (.inr k)
              exact ⟨by rw [upd_ne ne]; exact z.1, z.2.trans k⟩
        · rename_i hb
          rw [if_neg hb]
          cases ret_some.mp ey
          exact fin R5 (eacc ▸ hA5.1) hA5.2 (ra.step so5 fun a ha => (hps a ha).1) nd (fun a ha => by
            obtain ⟨z1, z2, z3⟩ := hps a ha
            obtain ⟨o, ho⟩ := ra.has a ha
            exact ⟨(so5 a o ho (.inr z1)).2.trans z1, z2, z3⟩) ws5.n (fun a o h k => ⟨(ws5 a o h (.inr k)).1, (ws5 a o h (.inr k)).2.trans k⟩) ez4 (by rw [← ed]; rfl)
      · have ei : i = items.length := by omega
        subst ei
        refine .inl ⟨wstop, ?_⟩
        rw [List.drop_length, runItems] at ez
        cases ret_some.mp ez
        rw [List.append_nil] at ed
        subst ed
        subst eacc
        refine k A0 ps H2 w2 (R1.back R2 stp) hacc ra (List.nodup_cons.mpr ⟨fun z => (hps A0 z).2.1 rfl, nd⟩) (fun a ha => ?_) (st1.trans stp)
        rcases List.mem_cons.mp ha with rfl | ha
        · exact ⟨hw2, fresh_of st1 hA⟩
        · exact ⟨(hps a ha).1, fun b o hb kb => (hps a ha).2.2 b o (st1 b o hb kb).1 (by rw [(st1 b o hb kb).2]; exact kb)⟩
    · cases e2
  · cases e2
end
end Dm

/-! The D machine: assignments. -/
namespace Dm
open PySem L2 PyProof.Rows
section
variable {X : Cx} {c : Cc} {Γ : Env} {tb : Tb} {n : Nat} {st : Stmt} {sts : List Stmt} {e : Expr} {w : Wm} {rs : List V} {s : St} {σ : L2.St} {H : Hp}
theorem i_flst {ms : M (List D)} : ∀ σ H Q, tF c (bnd ms fun ds => if ds.length ≤ sizeLine then ret ds else fail) σ H Q → tLst (tL c ms) σ H Q := fun σ H Q ⟨w, rs, s, d, s', R, e, k⟩ => by
  obtain ⟨d1, s1, e1, e⟩ := bnd_some.mp e
  split at e
  · rename_i hz
    cases ret_some.mp e
    refine ⟨w, rs, s, _, _, R, e1, fun v1 H1 w1 R1 q1 st1 => ⟨by rw [q1.length]; exact hz, fun p hp => ?_⟩⟩
    have sm : Same2 w1 H1 (wout w1 p) (upd H1 p (.lst v1)) := Same2.wout hp
    exact k p v1 _ _ (R1.ext sm) upd_same wout_same (q1.step sm.step) (fresh_of st1 hp) (st1.trans sm.step)
  · exact (fail_some.mp e).elim
theorem i_fconv {m : M D} : ∀ σ H Q, tF c (bnd m fun x => ofO (itD x)) σ H Q → tCB (rB1 c.K .list) (tCons (tE c m) tNil) σ H Q := fun σ H Q ⟨w, rs, s, d, s', R, e, k⟩ => by
  obtain ⟨d1, s1, e1, e5⟩ := bnd_some.mp e
  obtain ⟨z, ez, ez'⟩ := ofO_some.mp e5
  injection ez' with z1 z2; subst z1 z2
  refine ⟨w, rs, s, d1, _, R, e1, fun v1 H1 w1 R1 q1 st1 => ?_⟩
  have fin : ∀ {vs : List V}, IsAll c w1 H1 vs d → ∀ l, H1 l = none → Q (.ref l) (upd H1 l (.lst vs)) := fun {vs} r l hl => by
    have sm : Same2 w1 H1 (wout w1 l) (upd H1 l (.lst vs)) := Same2.wout hl
    exact k l vs _ _ (R1.ext sm) upd_same wout_same (r.step sm.step) (fresh_of st1 hl) (st1.trans sm.step)
  cases q1 <;> simp only [itD] at ez <;> try cases ez
  · rename_i h r
    exact ⟨_, _, rfl, .inl h.sq, fin r⟩
  · rename_i h r
    exact ⟨_, _, rfl, .inr h.sq, fin r⟩
/-- a comprehension of one clause -/
def okLc (tb : Tb) (N : List Str) (sc : Scope) (t : Tg) (it : Wk) (ifs : Es) (scope : Scope) (own : List (Str × Nat)) : Bool :=
  blkC N sc scope own && (t.ids.all fun i => (own.map (·.2)).contains i) && okT N (relS scope sc) (fun x => scope.names.lookup x == some .cell) t && okWk tb N sc (isTp t) it && okIfs tb N (relS scope sc) ifs
def okF (tb : Tb) (N : List Str) (sc : Scope) : E → Bool
  | .lst es _ => okEs tb N sc es
  | .conv .list _ e _ => glb sc "list" && okE tb N sc e
  | .comp elt t it ifs scope own _ => okLc tb N sc t it ifs scope own && okE tb N (relS scope sc) elt
  | _ => false
def okR (tb : Tb) (N : List Str) (sc : Scope) : E → Bool
  | .comp elt t it ifs scope own _ => okLc tb N sc t it ifs scope own && okF tb N (relS scope sc) elt
  | _ => false
theorem sLc {X : Cx} (G : Gd X c Γ tb n) {t : Tg} {it : Wk} {ifs : Es} {scope : Scope} {own : List (Str × Nat)} {te : TE} {elt : Expr} {p : Pos} (ok : okLc tb X.N X.env.scope t it ifs scope own = true)
    (h : ∀ {X' : Cx}, Gd X' c Γ tb n → X'.N = X.N → X'.env.scope = relS scope X.env.scope → PE X' elt te) : PE X (.ListComp elt [⟨t.py, it.py, ifs.py, 0⟩] scope p) (tLc (tI c (denIt Γ it)) (tG c t) (tBo c (denIfs Γ ifs)) te (own.map (·.2))) := by
  unfold okLc at ok
  simp only [Bool.and_eq_true] at ok
  obtain ⟨⟨⟨⟨h1, h2⟩, h3⟩, h4⟩, h5⟩ := ok
  refine pe_lc G.calm G.nd (sWk it G t h4) (blkOk_by h1) (fun s H C cl fp => ?_) (fun s H C cl fp => ?_) (fun s H C cl fp => ?_) (it.nofold _)
  · exact sT (X := X.blk s H scope (compEnvC scope cl C X.env) fp) G.nd G.calm t h3
  · exact sIfs ifs (G.blk s H scope _ fp) h5
  · exact h (G.blk s H scope _ fp) rfl rfl
theorem okLc_ids {N : List Str} {sc : Scope} {t : Tg} {it : Wk} {ifs : Es} {scope : Scope} {own : List (Str × Nat)} (ok : okLc tb N sc t it ifs scope own = true) : ∀ i ∈ t.ids, i ∈ own.map (·.2) := fun i hi => by
  unfold okLc at ok
  simp only [Bool.and_eq_true] at ok
  simpa using List.all_eq_true.mp ok.1.1.1.2 i hi
theorem sF (e : E) {X : Cx} (G : Gd X c Γ tb n) (ok : okF tb X.N X.env.scope e = true) : PE X e.py (tF c (denF Γ e)) := by
  unfold okF at ok
  split at ok
  · rw [E.py, denF]
    exact pimp (pe_lst (sEs _ G ok)) i_flst
  · rw [Bool.and_eq_true] at ok
    rw [E.py, denF]
    exact pimp (pe_b1 (b := .list) G.calm G.K ⟨by decide, by decide, by decide⟩ (glb_ok ok.1) (G.blt _ (by decide +kernel)) (sE _ G ok.2).1) i_fconv
  · rw [Bool.and_eq_true] at ok
    rw [E.py, denF]
    exact pimp (sLc G ok.1 fun G' e1 e2 => (sE _ G' (by rw [e1, e2]; exact ok.2)).1) (i_compF (okLc_ids ok.1))
  · cases ok
theorem sR (e : E) {X : Cx} (G : Gd X c Γ tb n) (ok : okR tb X.N X.env.scope e = true) : PE X e.py (tRw c (denR Γ e)) := by
  unfold okR at ok
  split at ok
  · rw [Bool.and_eq_true] at ok
    rw [E.py, denR]
    exact pimp (sLc G ok.1 fun G' e1 e2 => sF _ G' (by rw [e1, e2]; exact ok.2)) (i_compR (okLc_ids ok.1))
  · cases ok
/-- what waits to be stored, with its own places -/
inductive OwnP (c : Cc) (w : Wm) (H : Hp) : List Addr → V → OD → Prop
  | fl {p : Addr} {vs : List V} {ds : List D} : H p = some (.lst vs) → IsAll c w H vs ds → OwnP c w H [p] (.ref p) (.fl ds)
  | ll {p : Addr} {ps : List Addr} {dss : List (List D)} : H p = some (.lst (ps.map V.ref)) → RowsP c w H ps dss → OwnP c w H (p :: ps) (.ref p) (.ll dss)
theorem OwnP.has {w : Wm} {H : Hp} {as : List Addr} {v : V} {o : OD} (h : OwnP c w H as v o) : ∀ a ∈ as, ∃ o, H a = some o := fun a ha => by
  cases h with
  | fl h _ => rw [List.mem_singleton] at ha; subst ha; exact ⟨_, h⟩
  | ll h r =>
    rcases List.mem_cons.mp ha with rfl | ha
    · exact ⟨_, h⟩
    · exact r.has a ha
theorem OwnP.stepW {w w' : Wm} {H H' : Hp} {as : List Addr} {v : V} {o : OD} (st : StepN w H w' H') (hk : ∀ a ∈ as, ∀ o, H a = some o → H' a = some o) (h : OwnP c w H as v o) : OwnP c w' H' as v o := by
  cases h with
  | fl h r => exact .fl (hk _ List.mem_cons_self _ h) (r.stepN st)
  | ll h r => exact .ll (hk _ List.mem_cons_self _ h) (r.stepW st fun a ha => hk a (List.mem_cons_of_mem _ ha))
def PendOk (c : Cc) (w : Wm) (H : Hp) (w0 : Wm) (H0 : Hp) (as : List Addr) (v : V) : Slot → Prop
  | .val d => as = [] ∧ Is c w H v d
  | .own o => OwnP c w H as v o ∧ as.Nodup ∧ ∀ a ∈ as, w a = .out ∧ Fresh w0 H0 a
  | _ => False
section
variable {w' w0 w1 : Wm} {H' H0 H1 : Hp} {v : V} {x : Slot} {as bs : List Addr}
theorem PendOk.stepW (st : StepN w H w' H') (hk : ∀ a ∈ as, ∀ o, H a = some o → w a = .out → H' a = some o ∧ w' a = .out) (h : PendOk c w H w0 H0 as v x) : PendOk c w' H' w0 H0 as v x := by
  cases x with
  | val d => exact ⟨h.1, h.2.stepN st⟩
  | own o =>
    obtain ⟨h1, h2, h3⟩ := h
    refine ⟨h1.stepW st fun a ha o ho => (hk a ha o ho (h3 a ha).1).1, h2, fun a ha => ⟨?_, (h3 a ha).2⟩⟩
    obtain ⟨o, ho⟩ := h1.has a ha
    exact (hk a ha o ho (h3 a ha).1).2
  | no => exact h.elim
  | ref => exact h.elim
theorem PendOk.step (st : Step w H w' H') (h : PendOk c w H w0 H0 as v x) : PendOk c w' H' w0 H0 as v x :=
  h.stepW st.n fun a ha o ho k => ⟨(st a o ho (.inr k)).1, (st a o ho (.inr k)).2.trans k⟩
theorem Fresh.from {p : Addr} (st : Step w0 H0 w1 H1) (f : Fresh w1 H1 p) : Fresh w0 H0 p := fun a o h k => f a o (st a o h k).1 (by rw [(st a o h k).2]; exact k)
theorem PendOk.from (st : Step w0 H0 w1 H1) (h : PendOk c w H w1 H1 as v x) : PendOk c w H w0 H0 as v x := by
  cases x with
  | val d => exact h
  | own o => exact ⟨h.1, h.2.1, fun a ha => ⟨(h.2.2 a ha).1, (h.2.2 a ha).2.from st⟩⟩
  | no => exact h.elim
  | ref => exact h.elim
theorem PendOk.own {p : Addr} (h : PendOk c w H w0 H0 as v x) (hp : p ∈ as) : ∃ o, H p = some o ∧ w p = .out ∧ Fresh w0 H0 p := by
  cases x with
  | val d => rw [h.1] at hp; cases hp
  | own o =>
    obtain ⟨o, ho⟩ := h.1.has p hp
    exact ⟨o, ho, h.2.2 p hp⟩
  | no => exact h.elim
  | ref => exact h.elim
end
/-- several ones: the new places are unlike -/
inductive Pends (c : Cc) (w : Wm) (H : Hp) (w0 : Wm) (H0 : Hp) : List Addr → List V → List Slot → Prop
  | nil : Pends c w H w0 H0 [] [] []
  | cons {v : V} {vs : List V} {x : Slot} {xs : List Slot} {as bs : List Addr} : PendOk c w H w0 H0 as v x → (∀ p ∈ as, p ∉ bs) → Pends c w H w0 H0 bs vs xs → Pends c w H w0 H0 (as ++ bs) (v :: vs) (x :: xs)
theorem Pends.fresh {w w0 : Wm} {H H0 : Hp} : ∀ {as : List Addr} {vs : List V} {xs : List Slot}, Pends c w H w0 H0 as vs xs → ∀ q ∈ as, Fresh w0 H0 q
  | _, _, _, .nil, q, h => nomatch h
  | _, _, _, .cons h _ r, q, hq => by
    rcases List.mem_append.mp hq with hq | hq
    · obtain ⟨_, _, _, f⟩ := h.own hq
      exact f
    · exact Pends.fresh r q hq
theorem Pends.from {w w0 w1 : Wm} {H H0 H1 : Hp} (st : Step w0 H0 w1 H1) : ∀ {as : List Addr} {vs : List V} {xs : List Slot}, Pends c w H w1 H1 as vs xs → Pends c w H w0 H0 as vs xs
  | _, _, _, .nil => .nil
  | _, _, _, .cons h d r => .cons (h.from st) d (Pends.from st r)
def tP (c : Cc) (m : M (List Slot)) : TA := fun σ H Q => ∃ w rs s xs s', Rel c w rs s σ H ∧ m s = some (xs, s') ∧ ∀ vs as H' w', Rel c w' rs s' σ H' → Pends c w' H' w H as vs xs → Step w H w' H' → Q vs H'
/-- one of these -/
def tO (c : Cc) (m : M Slot) : TE := fun σ H Q => ∃ w rs s x s', Rel c w rs s σ H ∧ m s = some (x, s') ∧ ∀ v as H' w', Rel c w' rs s' σ H' → PendOk c w' H' w H as v x → Step w H w' H' → Q v H'
theorem i_ov {m : M D} : ∀ σ H Q, tO c (bnd m fun d => ret (.val d)) σ H Q → tE c m σ H Q := fun σ H Q ⟨w, rs, s, d, s', R, e, k⟩ => by
  obtain ⟨d1, s1, e1, e⟩ := bnd_some.mp e
  cases ret_some.mp e
  exact ⟨w, rs, s, d1, _, R, e1, fun v1 H1 w1 R1 q1 st1 => k v1 [] H1 w1 R1 ⟨rfl, q1⟩ st1⟩
theorem i_oo {m : M (List D)} : ∀ σ H Q, tO c (bnd m fun ds => ret (.own (.fl ds))) σ H Q → tF c m σ H Q := fun σ H Q ⟨w, rs, s, d, s', R, e, k⟩ => by
  obtain ⟨d1, s1, e1, e⟩ := bnd_some.mp e
  cases ret_some.mp e
  exact ⟨w, rs, s, d1, _, R, e1, fun p vs H1 w1 R1 h1 h2 r f st1 => k _ [p] H1 w1 R1 ⟨.fl h1 r, by simp, fun a ha => by rw [List.mem_singleton] at ha; subst ha; exact ⟨h2, f⟩⟩ st1⟩
theorem i_or {m : M (List (List D))} : ∀ σ H Q, tO c (bnd m fun ds => ret (.own (.ll ds))) σ H Q → tRw c m σ H Q := fun σ H Q ⟨w, rs, s, d, s', R, e, k⟩ => by
  obtain ⟨d1, s1, e1, e⟩ := bnd_some.mp e
  cases ret_some.mp e
  exact ⟨w, rs, s, d1, _, R, e1, fun p ps H1 w1 R1 h1 r nd f st1 => k _ (p :: ps) H1 w1 R1 ⟨.ll h1 r, nd, f⟩ st1⟩
/-- rows by their labels -/
theorem IsRows.pend {k : List Nat → Ow} {w w' : Wm} {H : Hp} (hs : StepN w H w' H) : ∀ {m : Nat} {vs : List V} {dss : List (List D)}, IsRows c w H k m vs dss → ∃ ps, vs = ps.map V.ref ∧ RowsP c w' H ps dss ∧ ∀ i a, ps[i]? = some a → w a = k [m + i]
  | _, _, _, .nil => ⟨[], rfl, .nil, fun i a h => by simp at h⟩
  | m, _, _, .cons (a := a) h1 h2 q r => by
    obtain ⟨ps, rfl, r', hl⟩ := IsRows.pend hs r
    refine ⟨a :: ps, rfl, .cons h2 (q.stepN hs) r', fun i b hb => ?_⟩
    cases i with
    | zero => simp at hb; subst hb; exact h1
    | succ i =>
      have := hl i b (by simpa using hb)
      rw [this]
      congr 2
      omega
theorem nodup_lab {k : List Nat → Ow} (hk : ∀ p q, k p = k q → p = q) {w : Wm} : ∀ {m : Nat} {ps : List Addr}, (∀ i a, ps[i]? = some a → w a = k [m + i]) → ps.Nodup
  | _, [], _ => .nil
  | m, p :: ps, hl => by
    refine List.nodup_cons.mpr ⟨fun z => ?_, nodup_lab hk (w := w) (m := m + 1) fun i a e => ?_⟩
    · obtain ⟨i, hi⟩ := List.mem_iff_getElem?.mp z
      have z1 := hl 0 p rfl
      rw [hl (i + 1) p (by simpa using hi)] at z1
      have := hk _ _ z1
      simp at this
    · rw [hl (i + 1) a (by simpa using e)]
      congr 2
      omega
/-- a call that has made a list -/
def wbackC (w wx : Wm) : Wm := fun a => match wx a with | .out => w a | .slot _ _ => .no | .res _ => .out | x => x
theorem i_callC {n f : Nat} {call : CallF} {m : M (List Slot)} {E : XK} {Γ : Env} (hΓ : Γ.call = call) (hn : ∀ s sl s', m s = some (sl, s') → sl.length = n) :
    ∀ σ H Q, tO c (bnd (bnd m fun sl => bnd (doCall Γ f sl) fun o => ofO o.mine) fun o => ret (.own o)) σ H Q → tCall (spD c n call f) [] E (tAs c m) σ H Q := fun σ H Q ⟨w, rs, s, x, s', R, e, k⟩ => by
  subst hΓ
  obtain ⟨oo, s3, e, e9⟩ := bnd_some.mp e
  cases ret_some.mp e9
  obtain ⟨sl, s1, e1, e⟩ := bnd_some.mp e
  obtain ⟨o, s2, e2, e⟩ := bnd_some.mp e
  obtain ⟨z, ez, ez'⟩ := ofO_some.mp e
  injection ez' with z1 z2; subst z1 z2
  unfold doCall at e2
  split at e2
  · rename_i o' S' ec
    cases e2
    refine ⟨w, rs, s, sl, s1, R, e1, fun vs H1 w1 R1 q1 st1 => ?_⟩
    dsimp only
    rw [List.append_nil]
    refine ⟨wcall w1, rs, s1.S, sl, o, S', hn _ _ _ e1, q1.stepN step_call.n, R1.cells, fun a i p z => ?_, ec, fun v H2 wx cs q st => ?_⟩
    · unfold wcall at z
      split at z <;> first | cases z | (rename_i h1 h2; exact h1 i p z)
    · obtain ⟨R2, st2⟩ := R1.callG (w' := wbackC w1 wx) st cs (fun a h => by unfold wbackC; rw [h]) (fun a h => by unfold wbackC; rw [h]) (fun a j p h => by unfold wbackC; rw [h])
      have sN : StepN wx H2 (wbackC w1 wx) H2 := fun a o h kk => ⟨h, by unfold wbackC; rw [kk]⟩
      have lab : ∀ a p, wx a = row p → wbackC w1 wx a = .out ∧ Fresh w1 H1 a := fun a p h => by
        refine ⟨by unfold wbackC; rw [h]; rfl, fun b ob hb kb zb => ?_⟩
        subst zb
        have := (st b ob hb (by unfold wcall; rcases kb with kb | kb <;> rw [kb] <;> simp)).2
        rw [h] at this
        unfold wcall at this
        rcases kb with kb | kb <;> rw [kb] at this <;> cases this
      have hrow : ∀ p q, row p = row q → p = q := fun p q z => by unfold row at z; injection z
      cases q with
      | leaf q => simp [OD.mine] at ez
      | oobj => simp [OD.mine] at ez
      | @fl a _ _ h1 h2 r =>
        simp only [OD.mine] at ez; cases ez
        refine k _ [a] H2 _ R2 ⟨.fl h2 (r.stepN sN), by simp, fun b hb => ?_⟩ (st1.trans st2)
        rw [List.mem_singleton] at hb; subst hb
        exact ⟨(lab _ _ h1).1, (lab _ _ h1).2.from st1⟩
      | @ll a _ _ h1 h2 r =>
        simp only [OD.mine] at ez; cases ez
        obtain ⟨ps, rfl, r', hl⟩ := r.pend sN
        refine k _ (a :: ps) H2 _ R2 ⟨.ll h2 r', List.nodup_cons.mpr ⟨fun z => ?_, nodup_lab hrow hl⟩, fun b hb => ?_⟩ (st1.trans st2)
        · obtain ⟨i, hi⟩ := List.mem_iff_getElem?.mp z
          have := hl i a hi
          rw [h1] at this
          have := hrow _ _ this
          simp at this
        · rcases List.mem_cons.mp hb with rfl | hb
          · exact ⟨(lab _ _ h1).1, (lab _ _ h1).2.from st1⟩
          · obtain ⟨i, hi⟩ := List.mem_iff_getElem?.mp hb
            exact ⟨(lab _ _ (hl i b hi)).1, (lab _ _ (hl i b hi)).2.from st1⟩
  · cases e2
def okC (tb : Tb) (N : List Str) (sc : Scope) : E → Bool
  | .call f x _ as _ => (match tb.funs[f]? with | some fi => fi.pl && (decide (fi.x = x) && decide (fi.ps.length = as.len)) | none => false) && glb sc x && !(x == ("__debug__" : Str)) && okAs tb N sc as
  | _ => false
theorem sC (e : E) {X : Cx} (G : Gd X c Γ tb n) (ok : okC tb X.N X.env.scope e = true) : PE X e.py (tO c (bnd (denC Γ e) fun o => ret (.own o))) := by
  unfold okC at ok
  split at ok
  · rename_i f x p as q
    simp only [Bool.and_eq_true, Bool.not_eq_true'] at ok
    obtain ⟨⟨⟨h1, h2⟩, h3⟩, h4⟩ := ok
    cases ef : tb.funs[f]? with
    | none => rw [ef] at h1; cases h1
    | some fi =>
      rw [ef] at h1
      simp only [Bool.and_eq_true, decide_eq_true_eq] at h1
      obtain ⟨hpl, h1⟩ := h1
      obtain ⟨fa, fd, g1, g2, g3, g4, _⟩ := G.fns f fi ef hpl
      rw [h1.1] at g1
      have hroom : Room (2 * n) X.A := G.room.mono (by omega)
      have hl : ∀ s sl s', denAs Γ as s = some (sl, s') → sl.length = fi.ps.length := fun s sl s' e => by rw [As.lenOk e, h1.2]
      have hA := sAs as G h4
      rw [E.py, denC]
      cases as with
      | nil =>
        rw [As.py] at hA ⊢
        refine pimp (pe_call0 (E := fun _ _ _ => False) g4 hroom (glb_ok h2) g1 g2 g3 .nil (fun _ _ _ _ _ _ _ z => z.elim) h3) fun σ H Q q => ?_
        have := i_callC (E := fun _ _ _ => False) rfl hl σ H Q q
        obtain ⟨w, rs, s, sl, s', R, e, k⟩ := this
        rw [denAs] at e
        cases ret_some.mp e
        exact k [] H w R .nil (Step.refl _ _)
      | val e as =>
        rw [As.py] at hA ⊢
        exact pimp (pe_call (E := fun _ _ _ => False) g4 hroom (glb_ok h2) g1 g2 g3 .nil (fun _ _ _ _ _ _ _ z => z.elim) hA h3 (e.star _ _) (As.noStar as)) (i_callC rfl hl)
      | share i y p' as =>
        rw [As.py] at hA ⊢
        exact pimp (pe_call (E := fun _ _ _ => False) g4 hroom (glb_ok h2) g1 g2 g3 .nil (fun _ _ _ _ _ _ _ z => z.elim) hA h3 rfl (As.noStar as)) (i_callC rfl hl)
  · cases ok
def okOE (tb : Tb) (N : List Str) (sc : Scope) : OE → Bool
  | .v e => okE tb N sc e
  | .o e => okF tb N sc e
  | .oo e => okR tb N sc e
  | .oc e => okC tb N sc e
theorem sOE (e : OE) {X : Cx} (G : Gd X c Γ tb n) (ok : okOE tb X.N X.env.scope e = true) : PE X e.e.py (tO c (denOE Γ e)) := by
  cases e with
  | v e => rw [denOE]; exact pimp (sE e G ok).1 i_ov
  | o e => rw [denOE]; exact pimp (sF e G ok) i_oo
  | oo e => rw [denOE]; exact pimp (sR e G ok) i_or
  | oc e => rw [denOE]; exact sC e G ok
theorem i_pcons {m : M Slot} {ms : M (List Slot)} : ∀ σ H Q, tP c (bnd m fun x => bnd ms fun xs => ret (x :: xs)) σ H Q → tCons (tO c m) (tP c ms) σ H Q := fun σ H Q ⟨w, rs, s, d, s', R, e, k⟩ => by
  obtain ⟨x, s1, e1, e⟩ := bnd_some.mp e
  obtain ⟨xs, s2, e2, e⟩ := bnd_some.mp e
  cases ret_some.mp e
  refine ⟨w, rs, s, x, s1, R, e1, fun v1 as1 H1 w1 R1 q1 st1 => ?_⟩
  refine ⟨w1, rs, s1, xs, _, R1, e2, fun v2 as2 H2 w2 R2 q2 st2 => ?_⟩
  refine k _ (as1 ++ as2) H2 w2 R2 (.cons (q1.step st2) (fun p hp hq => ?_) (q2.from st1)) (st1.trans st2)
  obtain ⟨us, h1, h2, f⟩ := q1.own hp
  exact q2.fresh p hq p _ h1 (.inr h2) rfl
theorem sPs : ∀ (es : List OE) {X : Cx}, Gd X c Γ tb n → (es.all fun e => okOE tb X.N X.env.scope e) = true → PA X (es.map fun e => e.e.py) (tP c (denOEs Γ es))
  | [], X, G, ok => by
    rw [denOEs]
    exact pimpA pa_nil fun σ H Q ⟨w, rs, s, d, s', R, e, k⟩ => by
      cases ret_some.mp e
      exact k [] [] H w R .nil (Step.refl _ _)
  | e :: es, X, G, ok => by
    rw [List.all_cons, Bool.and_eq_true] at ok
    rw [List.map_cons, denOEs]
    exact pimpA (pa_cons (sOE e G ok.1) (sPs es G ok.2) (e.e.star _ _)) i_pcons
/-! ### places are labelled -/
def wrows (w : Wm) (k : List Nat → Ow) : Nat → List Addr → Wm
  | _, [] => w
  | n, a :: ps => wset (wrows w k (n + 1) ps) a (k [n])
def wown (w : Wm) (k : List Nat → Ow) : List Addr → Wm
  | [] => w
  | p :: ps => wset (wrows w k 0 ps) p (k [])
theorem wrows_ne {w : Wm} {k : List Nat → Ow} : ∀ {n : Nat} {ps : List Addr} {a : Addr}, a ∉ ps → wrows w k n ps a = w a
  | _, [], _, _ => rfl
  | n, p :: ps, a, h => by
    rw [wrows, wset_ne (fun z : a = p => h (z ▸ List.mem_cons_self)), wrows_ne fun z => h (List.mem_cons_of_mem _ z)]
theorem wrows_at {w : Wm} {k : List Nat → Ow} : ∀ {n : Nat} {ps : List Addr} {i : Nat} {a : Addr}, ps.Nodup → ps[i]? = some a → wrows w k n ps a = k [n + i]
  | _, [], _, _, _, h => by simp at h
  | n, p :: ps, 0, a, _, h => by
    simp at h; subst h
    rw [wrows, wset_same]; rfl
  | n, p :: ps, i + 1, a, nd, h => by
    rw [List.nodup_cons] at nd
    have h' : ps[i]? = some a := by simpa using h
    rw [wrows, wset_ne (fun z : a = p => nd.1 (z ▸ List.mem_of_getElem? h')), wrows_at nd.2 h']
    congr 2
    omega
theorem wown_ne {w : Wm} {k : List Nat → Ow} {as : List Addr} {a : Addr} (h : a ∉ as) : wown w k as a = w a := by
  cases as with
  | nil => rfl
  | cons p ps =>
    rw [wown, wset_ne (fun z : a = p => h (z ▸ List.mem_cons_self)), wrows_ne fun z => h (List.mem_cons_of_mem _ z)]
theorem RowsP.lab {w w' : Wm} {H : Hp} {k : List Nat → Ow} (sN : StepN w H w' H) : ∀ {m : Nat} {ps : List Addr} {dss : List (List D)}, (∀ i a, ps[i]? = some a → w' a = k [m + i]) → RowsP c w H ps dss → IsRows c w' H k m (ps.map V.ref) dss
  | _, _, _, _, .nil => .nil
  | m, _, _, hl, .cons h q r => .cons (hl 0 _ rfl) h (q.stepN sN) (RowsP.lab sN (fun i a e => by rw [hl (i + 1) a (by simpa using e)]; congr 2; omega) r)
theorem OwnP.lab {w : Wm} {H : Hp} {k : List Nat → Ow} {as : List Addr} {v : V} {o : OD} (sN : StepN w H (wown w k as) H) (nd : as.Nodup) (h : OwnP c w H as v o) : IsO c (wown w k as) H k v o := by
  cases h with
  | fl h r => exact .fl (by rw [wown, wset_same]) h (r.stepN sN)
  | @ll p _ _ h r =>
    rw [List.nodup_cons] at nd
    refine .ll (by rw [wown, wset_same]) h (r.lab sN fun i a e => ?_)
    rw [wown, wset_ne (fun z : a = p => nd.1 (z ▸ List.mem_of_getElem? e)), wrows_at nd.2 e]
/-- what is labelled anew was another's -/
theorem wown_out {w : Wm} {k : List Nat → Ow} {as : List Addr} (ho : ∀ a ∈ as, w a = .out) : ∀ a, w a ≠ .out → wown w k as a = w a := fun a h => wown_ne fun z => h (ho a z)
theorem wown_n {w : Wm} {k : List Nat → Ow} {as : List Addr} {H : Hp} (ho : ∀ a ∈ as, w a = .out) : StepN w H (wown w k as) H := fun a o h kk => ⟨h, by rw [wown_out ho a (by rw [kk]; intro z; cases z)]; exact kk⟩
theorem Rel.wown {k : List Nat → Ow} {as : List Addr} (R : Rel c w rs s σ H) (ho : ∀ a ∈ as, w a = .out) : Rel c (Dm.wown w k as) rs s σ H :=
  R.keepN (wown_n ho) (fun a o i q h kk => ⟨h, wown_out ho a (by rw [kk]; intro z; cases z)⟩) (fun a o i q h kk => ⟨h, wown_out ho a (by rw [kk]; intro z; cases z)⟩)
/-- a name is stored -/
theorem Rel.setPend {i : Nat} {v : V} {x : Slot} {w0 : Wm} {H0 : Hp} {s' : St} {u : Unit} {as : List Addr} (R : Rel c w rs s σ H) (h : PendOk c w H w0 H0 as v x) (e : setSlot i x s = some (u, s')) :
    ∃ w', Rel c w' rs s' (σ.set i (some v)) H ∧ (∀ a, w' a = w a ∨ (a ∈ as ∧ w a = .out ∧ Fresh w0 H0 a)) := by
  unfold setSlot at e
  split at e
  · rename_i hi
    cases e
    cases x with
    | val d => exact ⟨w, R.set h.2, fun a => .inl rfl⟩
    | own o =>
      obtain ⟨h1, nd, h3⟩ := h
      have ho : ∀ a ∈ as, w a = .out := fun a ha => (h3 a ha).1
      have q := h1.lab (k := sow i) (wown_n ho) nd
      have R' := R.wown (k := sow i) ho
      refine ⟨Dm.wown w (sow i) as, ⟨by simpa using R.len, fun j y x e1 e2 => ?_, R'.st⟩, fun a => ?_⟩
      · by_cases hj : j = i
        · subst hj
          simp only [List.getElem?_set_self hi] at e1
          rw [List.getElem?_set_self (by rw [← R.len]; exact hi)] at e2
          cases e1; cases e2
          exact ⟨_, rfl, q⟩
        · simp only [List.getElem?_set_ne (Ne.symm hj)] at e1
          rw [List.getElem?_set_ne (Ne.symm hj)] at e2
          exact R'.sl j y x e1 e2
      · by_cases ha : a ∈ as
        · exact .inr ⟨ha, h3 a ha⟩
        · exact .inl (wown_ne ha)
    | no => exact h.elim
    | ref => exact h.elim
  · cases e
def storeAll (σ : L2.St) : List Nm → List V → L2.St
  | n :: ns, v :: vs => storeAll (σ.set n.i (some v)) ns vs
  | _, _ => σ
theorem Rel.setPends : ∀ {ns : List Nm} {vs : List V} {xs : List Slot} {as : List Addr} {w : Wm} {s s' : St} {σ : L2.St} {w0 : Wm} {H0 : Hp} {u : Unit}, Rel c w rs s σ H → Pends c w H w0 H0 as vs xs → Step w0 H0 w H → setSlots ns xs s = some (u, s') →
    ns.length = vs.length ∧ ∃ w', Rel c w' rs s' (storeAll σ ns vs) H ∧ Step w0 H0 w' H
  | [], [], [], as, w, s, s', σ, w0, H0, u, R, _, st, e => by
    rw [setSlots] at e
    cases ret_some.mp e
    exact ⟨rfl, w, R, st⟩
  | n :: ns, v :: vs, x :: xs, _, w, s, s', σ, w0, H0, u, R, .cons (as := as) (bs := bs) h d r, st, e => by
    rw [setSlots] at e
    obtain ⟨u1, s1, e1, e2⟩ := bnd_some.mp e
    obtain ⟨w1, R1, hw⟩ := R.setPend h e1
    have hst : Step w0 H0 w1 H := fun a o h k => by
      obtain ⟨z1, z2⟩ := st a o h k
      refine ⟨z1, ?_⟩
      rcases hw a with q | ⟨_, _, f⟩
      · rw [q]; exact z2
      · exact absurd rfl (f a o h k)
    have sN : StepN w H w1 H := fun a o h k => by
      refine ⟨h, ?_⟩
      rcases hw a with q | ⟨_, q, _⟩
      · rw [q]; exact k
      · rw [k] at q; cases q
    have r1 : Pends c w1 H w0 H0 bs vs xs := by
      have gen : ∀ {bs' : List Addr} {vs' : List V} {xs' : List Slot}, (∀ p ∈ as, p ∉ bs') → Pends c w H w0 H0 bs' vs' xs' → Pends c w1 H w0 H0 bs' vs' xs' := by
        intro bs' vs' xs' dd rr
        induction rr with
        | nil => exact .nil
        | cons h' d' r' ih =>
          rename_i v' vs' x' xs' cs' ds'
          refine .cons (h'.stepW sN fun a ha o ho k => ⟨ho, ?_⟩) d' (ih fun p hp hq => dd p hp (List.mem_append.mpr (.inr hq)))
          rcases hw a with q | ⟨hv, _, _⟩
          · rw [q]; exact k
          · exact absurd (List.mem_append.mpr (.inl ha)) (dd a hv)
      exact gen d r
    obtain ⟨hl, w', R', st'⟩ := Rel.setPends R1 r1 hst e2
    exact ⟨by rw [List.length_cons, List.length_cons, hl], w', R', st'⟩
  | [], _ :: _, _ :: _, _, _, _, _, _, _, _, _, _, _, _, e => by simp [setSlots, fail] at e
  | _ :: _, [], [], _, _, _, _, _, _, _, _, _, _, _, e => by simp [setSlots, fail] at e
end
end Dm

/-! The D machine: assignments as statements. -/
namespace Dm
open PySem L2 PyProof.Rows
def blkKind (sc : Scope) : ScopeKind := if sc.kind.isAnnotationScope then .function else sc.kind
/-- whether a, b = x, y is stored from the right -/
def swS (sc : Scope) (ts vs : List Expr) : Option (Option (List Str)) :=
  if (!(ts.length == 2 || ts.length == 3) || vs.length != ts.length || blkKind sc != .function) = true then some none
  else if (vs.any fun | .Starred .. => true | _ => false) = true then some none
  else
    let line := (ts.head?.map (·.pos.line)).getD 0
    let names := ts.filterMap fun
      | .Name id pos => if (sc.names.lookup id == some .local && pos.line == line) = true then some id else none
      | _ => none
    if (names.length != ts.length || names.eraseDups.length != names.length) = true then some none
    else if (vs.all (foldedForSure 8)) = true then some none
    else if (vs.all (constantsAlone 8)) = true then none
    else some (some names)
theorem sw_ok {env : PySem.Env} {ts vs : List Expr} {k k' : Nat} {p p' : Pos} {r : Option (List Str)} (h : swS env.scope ts vs = some r) : swappedStores [.Tuple ts k p] (.Tuple vs k' p') env = pure r := by
  unfold swS at h
  unfold swappedStores
  simp only [] at h ⊢
  have hk : ∀ x, env.kindOf x = env.scope.names.lookup x := fun _ => rfl
  have hb : env.blockKind = blkKind env.scope := rfl
  simp only [hk, hb]
  split at h
  · rename_i z
    cases h
    simp only [z, if_true]
  · rename_i z
    split at h
    · rename_i z2
      cases h
      exact (if_neg z).trans (if_pos z2)
    · rename_i z2
      split at h
      · rename_i z3
        cases h
        exact (if_neg z).trans ((if_neg z2).trans (if_pos z3))
      · rename_i z3
        split at h
        · rename_i z4
          cases h
          exact (if_neg z).trans ((if_neg z2).trans ((if_neg z3).trans (if_pos z4)))
        · rename_i z4
          split at h
          · cases h
          · rename_i z5
            cases h
            exact (if_neg z).trans ((if_neg z2).trans ((if_neg z3).trans ((if_neg z4).trans (if_neg z5))))
/-- [..] stored to a name: whether the two trade places -/
def swC (sc : Scope) (x : Str) (p pv : Pos) (scope : Scope) : Bool :=
  blkKind sc == .function && sc.names.lookup x == some .local && p.line == pv.line && !(scope.names.any fun (n, k) => n == x && (k == .local || k == .cell))
theorem swC_ok {env : PySem.Env} {elt : Expr} {gs : List Comprehension} {scope : Scope} {pos py : Pos} {y : Str} {l : Nat} : swapsWith (.ListComp elt gs scope pos) (some (.Name y py)) l env = pure (swC env.scope y py pos scope) := rfl
def E.isComp : E → Bool
  | .comp .. => true
  | .compN .. => true
  | _ => false
theorem E.noswap {e : E} (h : e.isComp = false) (t : Option Expr) (l : Nat) (env : PySem.Env) : swapsWith e.py t l env = pure false := by
  cases e <;> first | (rw [E.py]; rfl) | (simp [E.isComp] at h)
def okNm (N : List Str) (sc : Scope) (fnb : Str → Bool) (m : Nm) : Bool := okT N sc fnb (.nm m.i m.x m.p)
section
variable {X : Cx} {c : Cc} {Γ : Env} {tb : Tb} {n : Nat} {st : Stmt} {sts : List Stmt} {e : Expr} {w : Wm} {rs : List V} {s : St} {σ : L2.St} {H : Hp}
theorem okNm_ok {m : Nm} (h : okNm X.N X.env.scope X.fn m = true) : X.N[m.i]? = some m.x ∧ Loc X.env.scope m.x ∧ (X.fn m.x = true ∨ X.env.scope.names.lookup m.x = some .local) := by
  unfold okNm at h
  rw [okT, Bool.and_eq_true, decide_eq_true_eq] at h
  refine ⟨h.1, ?_, ?_⟩
  · have := h.2
    split at this
    · rename_i h; exact .inl h
    · rename_i h; exact .inr h
    · cases this
  · have := h.2
    split at this
    · rename_i h; exact .inr h
    · exact .inl this
    · cases this
theorem i_set {m : M Slot} {i : Nat} : ∀ D σ H, tS c (bnd m fun x => bnd (setSlot i x) fun _ => ret .nx) D σ H → tAsg (tO c m) (gName i) D σ H := fun D σ H ⟨w, rs, s, fl, s', R, e, k⟩ => by
  obtain ⟨x, s1, e1, e2⟩ := bnd_some.mp e
  obtain ⟨u, s2, e3, e4⟩ := bnd_some.mp e2
  cases ret_some.mp e4
  refine ⟨w, rs, s, x, s1, R, e1, fun v as H1 w1 R1 q st1 => ?_⟩
  obtain ⟨w2, R2, hw⟩ := R1.setPend q e3
  refine k _ H1 w2 R2 fun a o h kk => ?_
  obtain ⟨z1, z2⟩ := st1 a o h kk
  refine ⟨z1, ?_⟩
  rcases hw a with q | ⟨_, _, f⟩
  · rw [q]; exact z2
  · exact absurd rfl (f a o h kk)
def okSet (sc : Scope) (m : Nm) (e : OE) : Bool :=
  match e.e with
  | .comp _ _ _ _ scope _ p => !(swC sc m.x m.p p scope) || decide (sc.names.lookup m.x = some .local)
  | e => !e.isComp
theorem s_setC (G : Gd X c Γ tb n) {m : Nm} {p q : Pos} {ms : M Slot} {elt : Expr} {t : Tg} {it : Wk} {ifs : Es} {scope : Scope} {own : List (Str × Nat)} {te : TE} (k1 : X.N[m.i]? = some m.x) (hl : X.env.scope.names.lookup m.x = some .local)
    (hs : swC X.env.scope m.x m.p q scope = true) (ok : okLc tb X.N X.env.scope t it ifs scope own = true) (h : ∀ {X' : Cx}, Gd X' c Γ tb n → X'.N = X.N → X'.env.scope = relS scope X.env.scope → PE X' elt te)
    (hi : ∀ σ H Q, tO c ms σ H Q → tLc (tI c (denIt Γ it)) (tG c t) (tBo c (denIfs Γ ifs)) te (own.map (·.2)) σ H Q) :
    PS X (.Assign [.Name m.x m.p] (.ListComp elt [⟨t.py, it.py, ifs.py, 0⟩] scope q) p) (tS c (bnd ms fun x => bnd (setSlot m.i x) fun _ => ret .nx)) := by
  unfold okLc at ok
  simp only [Bool.and_eq_true] at ok
  obtain ⟨⟨⟨⟨h1, h2⟩, h3⟩, h4⟩, h5⟩ := ok
  refine pimpS (ps_setLc (i := m.i) (g := tG c t) (wi := tI c (denIt Γ it)) (tt := tBo c (denIfs Γ ifs)) (te := te) (own := own) G.calm G.nd k1 hl (by rw [swC_ok, hs]) (sWk it G t h4) (blkOk_by h1) (fun s H C cl fp => ?_) (fun s H C cl fp => ?_) (fun s H C cl fp => ?_) (it.nofold _)) fun D σ H q => hi _ _ _ (i_set D σ H q)
  · exact sT (X := X.blk s H scope (compEnvC scope cl C X.env) fp) G.nd G.calm t h3
  · exact sIfs ifs (G.blk s H scope _ fp) h5
  · exact h (G.blk s H scope _ fp) rfl rfl
theorem okLc_of {N : List Str} {sc : Scope} {elt : E} {t : Tg} {it : Wk} {ifs : Es} {scope : Scope} {own : List (Str × Nat)} {q : Pos} (ok : okE tb N sc (.comp elt t it ifs scope own q) = true) : okLc tb N sc t it ifs scope own = true ∧ okE tb N (relS scope sc) elt = true := by
  rw [okE] at ok
  rw [Bool.and_eq_true] at ok
  exact ok
theorem s_set (G : Gd X c Γ tb n) {m : Nm} {e : OE} {p : Pos} (h1 : okNm X.N X.env.scope X.fn m = true) (h2 : okOE tb X.N X.env.scope e = true) (h3 : okSet X.env.scope m e = true) :
    PS X (.Assign [m.py] e.e.py p) (tS c (bnd (denOE Γ e) fun x => bnd (setSlot m.i x) fun _ => ret .nx)) := by
  obtain ⟨k1, k2, k3⟩ := okNm_ok h1
  by_cases hc : e.e.isComp = true
  · obtain ⟨elt, t, it, ifs, scope, own, q, he⟩ : ∃ elt t it ifs scope own q, e.e = .comp elt t it ifs scope own q := by
      cases hh : e.e <;> rw [hh] at hc <;> simp [E.isComp] at hc
      · exact ⟨_, _, _, _, _, _, _, rfl⟩
      · simp [okSet, hh, E.isComp] at h3
    simp only [okSet, he, Bool.or_eq_true, Bool.not_eq_true', decide_eq_true_eq] at h3
    by_cases hs : swC X.env.scope m.x m.p q scope = true
    · have hl : X.env.scope.names.lookup m.x = some .local := by
        rcases h3 with z | z
        · rw [hs] at z; cases z
        · exact z
      cases e with
      | v e =>
        have he : e = _ := he
        subst he
        obtain ⟨o1, o2⟩ := okLc_of (q := q) h2
        show PS X (.Assign [.Name m.x m.p] (E.comp elt t it ifs scope own q).py p) _
        rw [E.py, denOE]
        refine s_setC G k1 hl hs o1 (fun G' e1 e2 => (sE _ G' (by rw [e1, e2]; exact o2)).1) fun σ H Q z => ?_
        have z2 := i_ov _ _ _ z
        rw [den] at z2
        exact i_comp (okLc_ids o1) _ _ _ z2
      | o e =>
        have he : e = _ := he
        subst he
        have h2 : okF tb X.N X.env.scope (.comp elt t it ifs scope own q) = true := h2
        simp only [okF, Bool.and_eq_true] at h2
        show PS X (.Assign [.Name m.x m.p] (E.comp elt t it ifs scope own q).py p) _
        rw [E.py, denOE]
        refine s_setC G k1 hl hs h2.1 (fun G' e1 e2 => (sE _ G' (by rw [e1, e2]; exact h2.2)).1) fun σ H Q z => ?_
        exact i_compF (okLc_ids h2.1) _ _ _ (i_oo _ _ _ z)
      | oo e =>
        have he : e = _ := he
        subst he
        have h2 : okR tb X.N X.env.scope (.comp elt t it ifs scope own q) = true := h2
        simp only [okR, Bool.and_eq_true] at h2
        show PS X (.Assign [.Name m.x m.p] (E.comp elt t it ifs scope own q).py p) _
        rw [E.py, denOE]
        refine s_setC G k1 hl hs h2.1 (fun G' e1 e2 => sF _ G' (by rw [e1, e2]; exact h2.2)) fun σ H Q z => ?_
        exact i_compR (okLc_ids h2.1) _ _ _ (i_or _ _ _ z)
      | oc e =>
        have he : e = _ := he
        subst he
        simp [okOE, okC] at h2
    · rw [Bool.not_eq_true] at hs
      refine pimpS (ps_set G.nd k1 k2 (sOE e G h2) ?_ k3) i_set
      rw [he]
      show swapsWith (E.comp elt t it ifs scope own q).py (some (.Name m.x m.p)) p.line X.env = pure false
      rw [E.py, swC_ok, hs]
  · rw [Bool.not_eq_true] at hc
    exact pimpS (ps_set G.nd k1 k2 (sOE e G h2) (E.noswap hc _ _ _) k3) i_set
end
end Dm

/-! The D machine: further assignments. -/
namespace Dm
open PySem L2 PyProof.Rows
section
variable {X : Cx} {c : Cc} {Γ : Env} {tb : Tb} {n : Nat} {st : Stmt} {sts : List Stmt} {e : Expr} {w : Wm} {rs : List V} {s : St} {σ : L2.St} {H : Hp}
theorem Pends.step {w w' w0 : Wm} {H H' H0 : Hp} (st : Step w H w' H') : ∀ {as : List Addr} {vs : List V} {xs : List Slot}, Pends c w H w0 H0 as vs xs → Pends c w' H' w0 H0 as vs xs
  | _, _, _, .nil => .nil
  | _, _, _, .cons h d r => .cons (h.step st) d (Pends.step st r)
def gNames : List Nm → TGs
  | [] => gNil
  | n :: ns => gCons (gName n.i) (gNames ns)
theorem gNames_ok : ∀ {ns : List Nm} {vs : List V} {σ : L2.St} {H : Hp} {Q : L2.St → Hp → Prop}, ns.length = vs.length → Q (storeAll σ ns vs) H → gNames ns vs σ H Q
  | [], [], _, _, _, _, h => ⟨rfl, h⟩
  | n :: ns, v :: vs, σ, H, Q, hl, h => ⟨v, vs, rfl, gNames_ok (by simpa using hl) h⟩
theorem pgs_names (hN : X.N.Nodup) : ∀ (ns : List Nm), (∀ m ∈ ns, okNm X.N X.env.scope X.fn m = true) → PGs X (ns.map Nm.py) (gNames ns)
  | [], _ => pgs_nil
  | m :: ns, h => by
    obtain ⟨k1, k2, k3⟩ := okNm_ok (h m List.mem_cons_self)
    exact pgs_cons (pg_name hN k1 k2 k3) (pgs_names hN ns fun m' hm => h m' (List.mem_cons_of_mem _ hm))
theorem names_each (env : PySem.Env) : ∀ ns : List Nm, (assignEach (ns.map Nm.py) env).length = ns.length ∧ (assignEach (ns.map Nm.py) env).findIdx? (·.1) = none
  | [] => ⟨rfl, rfl⟩
  | m :: ns => by
    obtain ⟨h1, h2⟩ := names_each env ns
    rw [List.map_cons]
    show ((false, assign m.py env) :: assignEach (ns.map Nm.py) env).length = _ ∧ ((false, assign m.py env) :: assignEach (ns.map Nm.py) env).findIdx? (·.1) = none
    exact ⟨by rw [List.length_cons, h1, List.length_cons], by rw [List.findIdx?_cons, h2]; rfl⟩
theorem i_plain {ns : List Nm} {m : M (List Slot)} (hn : ns.length ≤ 10) : ∀ D σ H, tS c (bnd m fun xs => bnd (setSlots ns xs) fun _ => ret .nx) D σ H → tAsg (tTup (tP c m)) (gTup c.K ns.length (gNames ns)) D σ H := fun D σ H ⟨w, rs, s, fl, s', R, e, k⟩ => by
  obtain ⟨xs, s1, e1, e2⟩ := bnd_some.mp e
  obtain ⟨u, s2, e3, e4⟩ := bnd_some.mp e2
  cases ret_some.mp e4
  refine ⟨w, rs, s, xs, s1, R, e1, fun vs as H1 w1 R1 q st1 => ?_⟩
  obtain ⟨hl, _⟩ := R1.setPends q st1 e3
  refine ⟨by rw [← hl]; exact Nat.le_trans hn (by decide), fun p hp => ?_⟩
  have st2 : Step w1 H1 (wnew w1 p) (upd H1 p (.tup vs)) := Step.new hp
  obtain ⟨_, w', R', st'⟩ := (R1.new hp).setPends (q.step st2) (st1.trans st2) e3
  exact ⟨p, vs, rfl, .of upd_same, hl.symm, gNames_ok hl (k _ _ w' R' st')⟩
theorem i_par2 {a b : Nm} {m : M (List Slot)} : ∀ D σ H, tS c (bnd m fun xs => bnd (setSlots [a, b] xs) fun _ => ret .nx) D σ H → tPar a.i b.i (tP c m) D σ H := fun D σ H ⟨w, rs, s, fl, s', R, e, k⟩ => by
  obtain ⟨xs, s1, e1, e2⟩ := bnd_some.mp e
  obtain ⟨u, s2, e3, e4⟩ := bnd_some.mp e2
  cases ret_some.mp e4
  refine ⟨w, rs, s, xs, s1, R, e1, fun vs as H1 w1 R1 q st1 => ?_⟩
  obtain ⟨hl, w', R', st'⟩ := R1.setPends q st1 e3
  match vs, hl with
  | [v1, v2], _ => exact ⟨v1, v2, rfl, k _ _ w' R' st'⟩
theorem i_par3 {a b d : Nm} {m : M (List Slot)} : ∀ D σ H, tS c (bnd m fun xs => bnd (setSlots [a, b, d] xs) fun _ => ret .nx) D σ H → tPar3 a.i b.i d.i (tP c m) D σ H := fun D σ H ⟨w, rs, s, fl, s', R, e, k⟩ => by
  obtain ⟨xs, s1, e1, e2⟩ := bnd_some.mp e
  obtain ⟨u, s2, e3, e4⟩ := bnd_some.mp e2
  cases ret_some.mp e4
  refine ⟨w, rs, s, xs, s1, R, e1, fun vs as H1 w1 R1 q st1 => ?_⟩
  obtain ⟨hl, w', R', st'⟩ := R1.setPends q st1 e3
  match vs, hl with
  | [v1, v2, v3], _ => exact ⟨v1, v2, v3, rfl, k _ _ w' R' st'⟩
def locals (sc : Scope) (ns : List Nm) : Bool := ns.all fun m => decide (sc.names.lookup m.x = some .local)
def okPar (sc : Scope) (ns : List Nm) (es : List OE) : Bool :=
  decide (ns.length ≤ 10) && match swS sc (ns.map Nm.py) (es.map fun e => e.e.py) with
  | some none => true
  | some (some xs) => decide (xs = ns.map (·.x)) && locals sc ns && decide ((ns.map (·.i)).Nodup) && (decide (ns.length = 2) || decide (ns.length = 3)) && decide (es.length = ns.length)
  | none => false
theorem s_par (G : Gd X c Γ tb n) {ns : List Nm} {es : List OE} {kt ke : Nat} {pt pe p : Pos} (h1 : (ns.all fun m => okNm X.N X.env.scope X.fn m) = true) (h2 : (es.all fun e => okOE tb X.N X.env.scope e) = true) (h3 : okPar X.env.scope ns es = true) :
    PS X (.Assign [.Tuple (ns.map Nm.py) kt pt] (.Tuple (es.map fun e => e.e.py) ke pe) p) (tS c (bnd (denOEs Γ es) fun xs => bnd (setSlots ns xs) fun _ => ret .nx)) := by
  have hns : ∀ m ∈ ns, okNm X.N X.env.scope X.fn m = true := List.all_eq_true.mp h1
  have hpa := sPs es G h2
  unfold okPar at h3
  rw [Bool.and_eq_true, decide_eq_true_eq] at h3
  obtain ⟨hn, h3⟩ := h3
  cases hs : swS X.env.scope (ns.map Nm.py) (es.map fun e => e.e.py) with
  | none => rw [hs] at h3; cases h3
  | some r =>
    rw [hs] at h3
    have hw := fun kt pt ke pe => sw_ok (k := kt) (p := pt) (k' := ke) (p' := pe) hs
    cases r with
    | none =>
      obtain ⟨a1, a2⟩ := names_each X.env ns
      have ih := i_plain (c := c) (ns := ns) (m := denOEs Γ es) hn
      rw [← G.K] at ih
      exact pimpS (ps_asg (pe_tup hpa) (pg_tup G.calm (pgs_names G.nd ns hns) a1 a2) rfl (hw _ _ _ _) rfl) ih
    | some xs =>
      simp only [Bool.and_eq_true, decide_eq_true_eq, Bool.or_eq_true] at h3
      obtain ⟨⟨⟨⟨q1, q2⟩, q3⟩, q4⟩, q5⟩ := h3
      subst q1
      have hloc : ∀ m ∈ ns, X.env.scope.names.lookup m.x = some .local := fun m hm => by simpa using List.all_eq_true.mp q2 m hm
      match ns, es, q4, q5 with
      | [a, b], [e1, e2], _, _ =>
        have d1 : a.i ≠ b.i := by simpa using q3
        exact pimpS (ps_par G.calm G.nd (okNm_ok (hns a (by simp))).1 (okNm_ok (hns b (by simp))).1 d1 (hloc a (by simp)) (hloc b (by simp)) hpa (hw _ _ _ _)) i_par2
      | [a, b, d], [e1, e2, e3], _, _ =>
        have d1 : a.i ≠ b.i ∧ a.i ≠ d.i ∧ b.i ≠ d.i := by
          simp at q3
          exact ⟨q3.1.1, q3.1.2, q3.2⟩
        exact pimpS (ps_par3 G.calm G.nd (okNm_ok (hns a (by simp))).1 (okNm_ok (hns b (by simp))).1 (okNm_ok (hns d (by simp))).1 d1.1 d1.2.1 d1.2.2 (hloc a (by simp)) (hloc b (by simp)) (hloc d (by simp)) hpa (hw _ _ _ _)) i_par3
end
end Dm

/-! The D machine: stores to items and fields; all statements. -/
namespace Dm
open PySem L2 PyProof.Rows
section
variable {X : Cx} {c : Cc} {Γ : Env} {tb : Tb} {n : Nat} {st : Stmt} {sts : List Stmt} {e : Expr} {w : Wm} {rs : List V} {s : St} {σ : L2.St} {H : Hp}
theorem set_ok {j : Nat} {i x d : D} {iv v : V} {s' : St} {Q : Hp → Prop} (R : Rel c w rs s σ H) (hi : Is c w H iv i) (hv : Is c w H v x) (e : mutF j (setAt i x) s = some (d, s'))
    (k : ∀ H', Rel c w rs s' σ H' → Step w H w H' → Q H') : ∃ a, σ[j]? = some (some (.ref a)) ∧ rSetL (.ref a) iv v H Q := by
  obtain ⟨a, vs, ds, ds', hs, h1, r, ef, km⟩ := R.mut e
  refine ⟨a, hs, ?_⟩
  unfold setAt at ef
  split at ef
  · rename_i kk
    split at ef
    · rename_i jj ej
      cases ef
      cases hi
      obtain ⟨R', st⟩ := km _ (r.set jj hv)
      exact ⟨a, vs, kk, jj, rfl, rfl, h1, by rw [r.length]; exact ej, k _ R' st⟩
    · cases ef
  · cases ef
theorem i_setI {j : Nat} {m mi : M D} : ∀ D σ H, tS c (bnd m fun d => bnd (peekL j) fun _ => bnd mi fun y => bnd (mutF j (setAt y d)) fun _ => ret .nx) D σ H → tAsg (tE c m) (gSub (tVar j) (tE c mi) rSetL) D σ H := fun D σ H ⟨w, rs, s, fl, s', R, e, k⟩ => by
  obtain ⟨d, s1, e1, e2⟩ := bnd_some.mp e
  obtain ⟨u, s2, e3, e4⟩ := bnd_some.mp e2
  obtain ⟨y, s3, e5, e6⟩ := bnd_some.mp e4
  obtain ⟨z, s4, e7, e8⟩ := bnd_some.mp e6
  cases ret_some.mp e8
  refine ⟨w, rs, s, d, s1, R, e1, fun v H1 w1 R1 q1 st1 => ?_⟩
  obtain ⟨rfl, a, vs, hv, ha⟩ := R1.peekLV e3
  refine ⟨_, hv, w1, rs, s2, y, s3, R1, e5, fun iv H2 w2 R2 q2 st2 => ?_⟩
  obtain ⟨a', hv', q⟩ := set_ok R2 q2 (q1.step st2) e7 fun H' R' st' => k σ H' w2 R' ((st1.trans st2).trans st')
  rw [hv] at hv'; cases hv'
  exact q
theorem i_subnm {j i : Nat} {kk : Int} {m : M D} : ∀ D σ H, tS c (bnd m fun d => match d with
    | .tup [a, b] => bnd (mutF j (setAt (.int kk) a)) fun _ => bnd (setV i b) fun _ => ret .nx
    | _ => fail) D σ H → tAsg (tE c m) (gTup c.K 2 (gCons (gSub (tVar j) (tC (.int kk)) rSetL) (gCons (gName i) gNil))) D σ H := fun D σ H ⟨w, rs, s, fl, s', R, e, k⟩ => by
  obtain ⟨d, s1, e1, e2⟩ := bnd_some.mp e
  split at e2
  · rename_i a b
    obtain ⟨u, s2, e3, e4⟩ := bnd_some.mp e2
    obtain ⟨y, s3, e5, e6⟩ := bnd_some.mp e4
    cases ret_some.mp e6
    refine ⟨w, rs, s, _, s1, R, e1, fun v H1 w1 R1 q1 st1 => ?_⟩
    cases q1 with
    | tup h r =>
      cases r with
      | cons qa r =>
        cases r with
        | cons qb r =>
          cases r
          rename_i va vb
          unfold setV at e5
          split at e5
          · cases e5
            obtain ⟨a', hv', q⟩ := set_ok (v := va) (Q := fun H' => ∃ v r, [vb] = v :: r ∧ gName i v σ H' fun σ' H' => r = [] ∧ D.nx σ' H') R1 (.int kk) qa e3 fun H' R' st' => ⟨vb, [], rfl, rfl, k _ H' w1 (R'.set (qb.step st')) (st1.trans st')⟩
            exact ⟨_, [va, vb], rfl, h.sq, rfl, va, [vb], rfl, _, hv', q⟩
          · cases e5
  · exact (fail_some.mp e2).elim
/-- fields -/
theorem putF_zip : ∀ {ns : List Str} {vs : List V} {f : Str} {v : V}, ns.Nodup → ns[vs.length]? = some f → putF f v (ns.zip vs) = ns.zip (vs ++ [v])
  | [], _, _, _, _, h => by simp at h
  | n :: ns, [], f, v, _, h => by
    simp at h
    subst h
    simp [putF]
  | n :: ns, u :: vs, f, v, nd, h => by
    rw [List.nodup_cons] at nd
    have h' : ns[vs.length]? = some f := by simpa using h
    have ne : n ≠ f := fun z => nd.1 (z ▸ List.mem_of_getElem? h')
    rw [List.zip_cons_cons, List.cons_append, List.zip_cons_cons]
    show (if n = f then (n, v) :: ns.zip vs else (n, u) :: putF f v (ns.zip vs)) = _
    rw [if_neg ne, putF_zip nd.2 h']
theorem i_setF (hf : c.fn = Γ.fn) (hc : ∀ q, Γ.fn q ≠ [] → ClsOk c q) (hb : ∀ q, (Γ.fn q).length ≤ 900) {j k : Nat} {f : Str} {m : M D} : ∀ D σ H, tS c (bnd m fun d => bnd (setFld j k f Γ.fn d) fun _ => ret .nx) D σ H → sFld c.K (tVar j) (tE c m) f D σ H := fun D σ H ⟨w, rs, s, fl, s', R, e, kq⟩ => by
  obtain ⟨d, s1, e1, e2⟩ := bnd_some.mp e
  obtain ⟨u, s2, e3, e4⟩ := bnd_some.mp e2
  cases ret_some.mp e4
  refine ⟨w, rs, s, d, s1, R, e1, fun v H1 w1 R1 q1 st1 => ?_⟩
  unfold setFld at e3
  split at e3
  · rename_i q eq
    split at e3
    · rename_i cc fs es
      split at e3
      · rename_i hk
        cases e3
        obtain ⟨x, ex, v', rfl, ev⟩ := R1.at eq
        obtain ⟨v'', ev', qo⟩ := R1.st q _ es
        rw [ev] at ev'; cases ev'
        cases qo with
        | oobj h1 h2 h3 r =>
          rename_i a dx vs
          have ne : Γ.fn cc ≠ [] := fun z => by rw [z] at hk; simp at hk
          have co := hc cc ne
          have hlen : vs.length = k := by rw [r.length, ← hk.1]
          have hfk : (c.fn cc)[vs.length]? = some f := by rw [hf, hlen]; exact hk.2
          refine ⟨_, ex, a, _, dx, _, rfl, h2, co.cls, co.no f (by rw [hf]; exact List.mem_of_getElem? hk.2), ?_, ?_⟩
          · rw [List.length_zip]
            have := hb cc
            rw [← hf] at this
            omega
          · rw [putF_zip co.nd hfk]
            have hw : w1 a = cow q [] := h1
            have g1 : StepN w1 H1 w1 (upd H1 a (.ins (c.cl cc) dx ((c.fn cc).zip (vs ++ [v])))) := fun b u hb hw' => by
              refine ⟨?_, hw'⟩
              rw [upd_ne]; exact hb
              intro z; rw [z, hw] at hw'; cases hw'
            have g2 : Step w1 H1 w1 (upd H1 a (.ins (c.cl cc) dx ((c.fn cc).zip (vs ++ [v])))) := fun b u hb hw' => by
              refine ⟨?_, rfl⟩
              rw [upd_ne]; exact hb
              intro z; rw [z, hw] at hw'; rcases hw' with z | z <;> cases z
            have g3 : ∀ b u, H1 b = some u → w1 b ≠ cow q [] → (upd H1 a (.ins (c.cl cc) dx ((c.fn cc).zip (vs ++ [v])))) b = some u ∧ w1 b = w1 b := fun b u hb hw' => by
              refine ⟨?_, rfl⟩
              rw [upd_ne]; exact hb
              intro z; rw [z] at hw'; exact hw' hw
            refine kq σ _ w1 ⟨R1.len, fun i y x e5 e6 => ?_, fun k' o e5 => ?_⟩ (st1.trans g2)
            · have z := R1.sl i y x e5 e6
              cases y with
              | no => trivial
              | val d => obtain ⟨v, e, q⟩ := z; exact ⟨v, e, q.stepN g1⟩
              | own o =>
                obtain ⟨v, e, q⟩ := z
                refine ⟨v, e, q.keepN g1 fun b u p hb hw' => g3 b u hb ?_⟩
                rw [hw']; unfold sow cow; intro z; cases z
              | ref k => exact z
            · by_cases hk' : k' = q
              · subst hk'
                simp only [List.getElem?_set_self (List.getElem?_eq_some_iff.mp es).1] at e5
                cases e5
                refine ⟨_, ev, .oobj hw upd_same ?_ ((r.append (.cons q1 .nil)).stepN g1)⟩
                rw [List.length_append, List.length_singleton]
                have := (List.getElem?_eq_some_iff.mp hfk).1
                omega
              · simp only [List.getElem?_set_ne (Ne.symm hk')] at e5
                obtain ⟨v, e7, q⟩ := R1.st k' o e5
                refine ⟨v, e7, q.keepN g1 fun b u p hb hw' => g3 b u hb ?_⟩
                rw [hw']; unfold cow; intro z; injection z with z1 _; exact hk' z1
      · cases e3
    · cases e3
  · cases e3
theorem i_retO {m : M Slot} : ∀ D σ H, tS c (bnd m rtM) D σ H → tRet (tO c m) D σ H := fun D σ H ⟨w, rs, s, fl, s', R, e, k⟩ => by
  obtain ⟨x, s1, e1, e2⟩ := bnd_some.mp e
  refine ⟨w, rs, s, x, _, R, e1, fun v as H1 w1 R1 h st1 => ?_⟩
  cases x with
  | val d =>
    cases ret_some.mp e2
    exact k σ H1 w1 R1 st1 v (.leaf h.2)
  | own o =>
    cases ret_some.mp e2
    obtain ⟨h1, nd, h3⟩ := h
    have ho : ∀ a ∈ as, w1 a = .out := fun a ha => (h3 a ha).1
    refine k σ H1 _ (R1.wown (k := row) ho) (fun a o ha kk => ?_) v (h1.lab (k := row) (wown_n ho) nd)
    obtain ⟨z1, z2⟩ := st1 a o ha kk
    refine ⟨z1, ?_⟩
    rw [wown_ne fun hm => (h3 a hm).2 a o ha kk rfl]
    exact z2
  | no => exact h.elim
  | ref => exact h.elim
/-- the labels as they were -/
def wkeep (w0 w3 : Wm) (H0 : Hp) (j : Nat) : Wm := fun a => match w0 a, H0 a with
  | .slot i p, some _ => if i = j then .slot i p else w3 a
  | _, _ => w3 a
theorem wkeep_own {w0 w3 : Wm} {H0 : Hp} {j : Nat} {a : Addr} {p : List Nat} {o : HO} (h : w0 a = .slot j p) (ho : H0 a = some o) : wkeep w0 w3 H0 j a = .slot j p := by
  unfold wkeep; rw [h, ho]; simp
theorem wkeep_ne {w0 w3 : Wm} {H0 : Hp} {j : Nat} {a : Addr} (h : ∀ p o, w0 a = .slot j p → H0 a = some o → False) : wkeep w0 w3 H0 j a = w3 a := by
  unfold wkeep
  split
  · rename_i i p o e1 e2
    split
    · rename_i z; subst z; exact (h p o e1 e2).elim
    · rfl
  · rfl
theorem IsAll.atoms {w w' : Wm} {H H' : Hp} : ∀ {vs : List V} {ds : List D}, ds.all D.atom = true → IsAll c w H vs ds → IsAll c w' H' vs ds
  | _, _, _, .nil => .nil
  | _, _, h, .cons q r => by
    rw [List.all_cons, Bool.and_eq_true] at h
    refine .cons ?_ (IsAll.atoms h.2 r)
    cases q <;> first | exact .non | exact .bl _ | exact .int _ | exact .str _ | (simp [D.atom] at h)
theorem IsRows.stepK {k : List Nat → Ow} {w w' : Wm} {H H' : Hp} (sN : StepN w H w' H') (hk : ∀ a o p, H a = some o → w a = k p → H' a = some o ∧ w' a = w a) {n : Nat} {vs : List V} {dss : List (List D)} (r : IsRows c w H k n vs dss) : IsRows c w' H' k n vs dss := r.keepN sN hk
theorem IsRows.get {k : List Nat → Ow} {w : Wm} {H : Hp} : ∀ {n : Nat} {vs : List V} {dss : List (List D)}, IsRows c w H k n vs dss → ∀ {i : Nat} {ds : List D}, dss[i]? = some ds → ∃ a us, vs[i]? = some (.ref a) ∧ w a = k [n + i] ∧ H a = some (.lst us) ∧ IsAll c w H us ds
  | _, _, _, .nil, _, _, e => by simp at e
  | n, _, _, .cons h1 h2 q r, 0, _, e => by simp at e; subst e; exact ⟨_, _, rfl, h1, h2, q⟩
  | n, _, _, .cons h1 h2 q r, i + 1, ds, e => by
    obtain ⟨a, us, e1, e2, e3⟩ := IsRows.get r (i := i) (by simpa using e)
    exact ⟨a, us, by simpa using e1, by rw [e2]; congr 2; omega, e3⟩
theorem IsRows.length {k : List Nat → Ow} {w : Wm} {H : Hp} : ∀ {n : Nat} {vs : List V} {dss : List (List D)}, IsRows c w H k n vs dss → vs.length = dss.length
  | _, _, _, .nil => rfl
  | _, _, _, .cons _ _ _ r => by rw [List.length_cons, List.length_cons, IsRows.length r]
/-- a row is changed -/
theorem IsRows.put {j : Nat} {w : Wm} {H H' : Hp} {a : Addr} {us' : List V} {ds' : List D} (hr : IsAll c w H' us' ds') (ha : H' a = some (.lst us')) (hk : ∀ b o, H b = some o → b ≠ a → H' b = some o) (hN : StepN w H w H') :
    ∀ {n i : Nat} {vs : List V} {dss : List (List D)}, IsRows c w H (sow j) n vs dss → w a = sow j [n + i] → vs[i]? = some (.ref a) → IsRows c w H' (sow j) n vs (dss.set i ds')
  | _, _, _, _, .nil, _, e => by simp at e
  | n, 0, _, _, .cons h1 h2 q r, hw, e => by
    simp at e; subst e
    rw [List.set_cons_zero]
    refine .cons h1 ha hr ?_
    have aux : ∀ {m : Nat} {vs : List V} {dss : List (List D)}, n < m → IsRows c w H (sow j) m vs dss → IsRows c w H' (sow j) m vs dss := by
      intro m vs dss hm r
      induction r with
      | nil => exact .nil
      | cons g1 g2 g3 _ ih =>
        refine .cons g1 (hk _ _ g2 fun z => ?_) (g3.stepN hN) (ih (by omega))
        subst z
        rw [g1] at hw
        unfold sow at hw
        injection hw with _ hw
        simp at hw
        omega
    exact aux (Nat.lt_succ_self n) r
  | n, i + 1, _, _, .cons (a := b) h1 h2 q r, hw, e => by
    rw [List.set_cons_succ]
    refine .cons h1 (hk _ _ h2 fun z => ?_) (q.stepN hN) (IsRows.put hr ha hk hN r (by rw [hw]; congr 2; omega) (by simpa using e))
    subst z
    rw [h1] at hw
    unfold sow at hw
    injection hw with _ hw
    simp at hw
theorem i_setII {j : Nat} {m mi mj : M D} : ∀ D σ H, tS c (bnd m fun d => setII mi mj j d) D σ H → tAsg (tE c m) (gSub (tOp (rIx c.K) (tVar j) (tE c mi)) (tE c mj) rSetL) D σ H := fun D σ H ⟨w, rs, s, fl, s', R, e, k⟩ => by
  obtain ⟨d, s0, e0, e⟩ := bnd_some.mp e
  refine ⟨w, rs, s, d, s0, R, e0, fun v H0 w0 R0 q0 st0 => ?_⟩
  unfold setII at e
  split at e
  · rename_i dss ej
    split at e
    · rename_i hno
      split at e
      · rename_i a s1 e1
        split at e
        · rename_i r er
          split at e
          · rename_i ds ed
            split at e
            · rename_i b s2 e2
              split at e
              · rename_i l el
                split at e
                · rename_i hfl
                  cases e
                  obtain ⟨vx, hvx, R1, q1⟩ := R0.free ej
                  obtain ⟨x, hx, vx', rfl, qo⟩ := R0.at ej
                  rw [hvx] at hx; cases hx
                  cases qo with
                  | ll g1 g2 g3 =>
                    rename_i a0 vs0
                    refine ⟨_, hvx, wfree w0 j, rs, _, _, s1, R1, e1, fun v1 H1 w1 R2 p1 st1 => ?_⟩
                    cases p1
                    have c0 := st1 a0 _ g2 (.inl (wfree_own g1))
                    obtain ⟨ra, us, h1, h2, h3, h4⟩ := g3.get ed
                    have hlen := g3.length
                    refine .inl ⟨_, _, _, _, rfl, rfl, .of c0.1, (by unfold atI; rw [hlen, er]; exact h1), ?_⟩
                    refine ⟨w1, rs, s1, _, s2, R2, e2, fun v2 H2 w2 R3 p2 st2 => ?_⟩
                    cases p2
                    have hown : wfree w0 j ra = .no := wfree_own h2
                    have st12 := st1.trans st2
                    have c1 := st12 ra _ h3 (.inl hown)
                    refine ⟨ra, us, _, l, rfl, rfl, c1.1, by rw [h4.length]; exact el, ?_⟩
                    -- the labels as they were
                    let w3 := wkeep w0 w2 H0 j
                    have kN : ∀ b o, H0 b = some o → w0 b = .no → H2 b = some o ∧ w3 b = .no := fun b o hb kb => by
                      have z : wfree w0 j b = .no := by unfold wfree; rw [kb]
                      obtain ⟨z1, z2⟩ := st12 b o hb (.inl z)
                      refine ⟨z1, ?_⟩
                      show wkeep w0 w2 H0 j b = .no
                      rw [wkeep_ne (fun p o e1 _ => by rw [kb] at e1; cases e1), z2, z]
                    have kO : ∀ b o, H0 b = some o → w0 b = .out → H2 b = some o ∧ w3 b = .out := fun b o hb kb => by
                      have z : wfree w0 j b = .out := by unfold wfree; rw [kb]
                      obtain ⟨z1, z2⟩ := st12 b o hb (.inr z)
                      refine ⟨z1, ?_⟩
                      show wkeep w0 w2 H0 j b = .out
                      rw [wkeep_ne (fun p o e1 _ => by rw [kb] at e1; cases e1), z2, z]
                    have kS : ∀ b o p, H0 b = some o → w0 b = sow j p → H2 b = some o ∧ w3 b = w0 b := fun b o p hb kb => by
                      obtain ⟨z1, z2⟩ := st12 b o hb (.inl (wfree_own kb))
                      exact ⟨z1, by rw [kb]; exact wkeep_own kb hb⟩
                    have sN : StepN w0 H0 w3 H2 := kN
                    have wra : w3 ra = sow j [0 + r] := by rw [(kS ra _ _ h3 h2).2]; exact h2
                    -- the store
                    let H3 := upd H2 ra (.lst (us.set l v))
                    have sN3 : StepN w3 H2 w3 H3 := fun b o hb kb => by
                      refine ⟨?_, kb⟩
                      show upd H2 ra _ b = _
                      rw [upd_ne (fun z => by rw [z, wra] at kb; cases kb)]
                      exact hb
                    have sN03 : StepN w0 H0 w3 H3 := fun b o hb kb => sN3 b o (kN b o hb kb).1 (kN b o hb kb).2
                    refine k σ H3 w3 ⟨?_, fun i y x e1 e2 => ?_, fun i o ei => ?_⟩ fun b o hb kb => ?_
                    · simpa using R0.len
                    · by_cases hi : i = j
                      · subst hi
                        simp only [List.getElem?_set_self (List.getElem?_eq_some_iff.mp ej).1] at e1
                        cases e1
                        rw [hvx] at e2; cases e2
                        have a2 : H2 a0 = some (.lst vs0) := (st2 a0 _ c0.1 (.inl (c0.2.trans (wfree_own g1)))).1
                        refine ⟨_, rfl, .ll (vs := vs0) ((kS a0 _ _ g2 g1).2.trans g1) ?_ ?_⟩
                        · show upd H2 ra _ a0 = _
                          rw [upd_ne]
                          exact a2
                          intro z
                          rw [← z] at h2
                          rw [g1] at h2
                          unfold sow at h2
                          injection h2 with _ h2
                          simp at h2
                        · have g3' : IsRows c w3 H2 (sow i) 0 vs0 dss := g3.keepN sN kS
                          exact g3'.put (a := ra) (us' := us.set l v) (ds' := ds.set l d) ((h4.stepN sN03).set l (q0.stepN sN03)) upd_same (fun b o hb ne => by show upd H2 ra _ b = _; rw [upd_ne ne]; exact hb) sN3 wra h1
                      · simp only [List.getElem?_set_ne (Ne.symm hi)] at e1
                        have z := R0.sl i y x e1 e2
                        cases y with
                        | no => trivial
                        | val d => obtain ⟨v, e, q⟩ := z; exact ⟨v, e, q.stepN sN03⟩
                        | own o =>
                          have hm : Slot.own o ∈ s0.L.set j .no := by
                            refine List.mem_of_getElem? (i := i) ?_
                            rw [List.getElem?_set_ne (Ne.symm hi)]
                            exact e1
                          have := List.all_eq_true.mp hno _ hm
                          simp [Slot.notOwn] at this
                        | ref q => exact z
                    · obtain ⟨u, e3, q⟩ := R3.st i o ei
                      refine ⟨u, e3, ?_⟩
                      have hf := List.all_eq_true.mp hfl o (List.mem_of_getElem? ei)
                      cases q with
                      | fl f1 f2 f3 =>
                        rename_i ca cvs cds
                        have nl : ∀ p o, w0 ca = .slot j p → H0 ca = some o → False := fun p o e1 e2 => by
                          have z := (st12 ca o e2 (.inl (wfree_own e1))).2
                          rw [f1, wfree_own e1] at z
                          cases z
                        have wc : w3 ca = cow i [] := (wkeep_ne nl).trans f1
                        refine .fl wc ?_ (f3.atoms hf)
                        show upd H2 ra _ ca = _
                        rw [upd_ne (fun z => by rw [z, wra] at wc; cases wc)]
                        exact f2
                      | _ => simp [OD.flat] at hf
                    · obtain ⟨y1, y2⟩ := st0 b o hb kb
                      have ne : ∀ {o'}, H2 b = some o' → (w3 b = .no ∨ w3 b = .out) → H3 b = some o' := fun {o'} hb' kb' => by
                        show upd H2 ra _ b = _
                        rw [upd_ne (fun z => by rw [z, wra] at kb'; rcases kb' with z | z <;> cases z)]
                        exact hb'
                      rcases kb with kb | kb
                      · rw [kb] at y2
                        obtain ⟨x1, x2⟩ := kN b o y1 y2
                        exact ⟨ne x1 (.inl x2), by rw [x2, kb]⟩
                      · rw [kb] at y2
                        obtain ⟨x1, x2⟩ := kO b o y1 y2
                        exact ⟨ne x1 (.inr x2), by rw [x2, kb]⟩
                · cases e
              · cases e
            · cases e
          · cases e
        · cases e
      · cases e
    · cases e
  · cases e
def notTup : E → Bool
  | .tup .. => false
  | _ => true
def okAsg (sc : Scope) (t v : Expr) : Bool :=
  match t, v with
  | .Tuple ts _ _, .Tuple vs _ _ => (match swS sc ts vs with | some none => true | _ => false)
  | _, _ => true
mutual
def okS (tb : Tb) (N : List Str) (sc : Scope) (fnb : Str → Bool) : T → Bool
  | .pass _ => true
  | .exp e _ => okE tb N sc e && !e.isComp
  | .set m e _ => okNm N sc fnb m && okOE tb N sc e && okSet sc m e
  | .asg t e _ => okT N sc fnb t && okE tb N sc e && (!e.isComp || isTp t) && okAsg sc t.py e.py
  | .par ns _ _ es _ _ _ => (ns.all fun m => okNm N sc fnb m) && (es.all fun e => okOE tb N sc e) && okPar sc ns es
  | .subnm j _ _ _ _ m _ _ e _ => okN N sc j.i j.x && okNm N sc fnb m && okE tb N sc e && !e.isComp && notTup e
  | .setI j i _ e _ => okN N sc j.i j.x && okE tb N sc i && okE tb N sc e && !e.isComp
  | .setF j _ _ _ e _ => okN N sc j.i j.x && okE tb N sc e && !e.isComp
  | .iff t a b _ => okE tb N sc t && t.noIfe && okSs tb N sc fnb a && okSs tb N sc fnb b
  | .whl t a _ => okE tb N sc t && t.noIfe && okSs tb N sc fnb a
  | .for t it a _ => okT N sc fnb t && okWk tb N sc (isTp t) it && okSs tb N sc fnb a
  | .ret e _ => okE tb N sc e
  | .retO e _ => okOE tb N sc e
  | .setII j i _ i2 _ e _ => okN N sc j.i j.x && okE tb N sc i && okE tb N sc i2 && okE tb N sc e && !e.isComp
  | .bad _ => true
def okSs (tb : Tb) (N : List Str) (sc : Scope) (fnb : Str → Bool) : Ts → Bool
  | .nil => true
  | .cons t ts => okS tb N sc fnb t && okSs tb N sc fnb ts
end
theorem okAsg_ok {t : Tg} {v : E} {k : Nat} {p : Pos} (h : okAsg X.env.scope t.py v.py = true) : swappedStores [t.py] v.py X.env = pure none := by
  unfold okAsg at h
  split at h
  · rename_i ts _ _ vs _ _ e1 e2
    rw [e1, e2]
    split at h
    · rename_i hs; exact sw_ok hs
    · cases h
  · rename_i hn
    cases t with
    | nm i x q =>
      rw [Tg.py]
      cases v <;> (rw [E.py]; rfl)
    | tp ts k q =>
      rw [Tg.py] at hn ⊢
      cases v <;> first
        | (rw [E.py]; rfl)
        | (rw [E.py] at hn; exact absurd rfl (hn _ _ _ _ _ _ rfl))
theorem notTup_ok {ts : List Expr} {k : Nat} {p : Pos} {v : E} (h : notTup v = true) : swappedStores [.Tuple ts k p] v.py X.env = pure none := by
  cases v <;> first | (rw [E.py]; rfl) | (simp [notTup] at h)
theorem E.noswapS {e : E} (h : e.isComp = false) (t : Expr) (l : Nat) (env : PySem.Env) : swapsWithSole [t] e.py l env = pure false := by
  show swapsWith e.py (some t) l env = pure false
  exact E.noswap h _ _ _
theorem E.assignSub (i : E) (o : Expr) (q : Pos) (env : PySem.Env) : ∀ v, assign (.Subscript o i.py q) env v = (do
      let ov ← holding [v] (eval o env)
      let iv ← holding [v, ov] (eval i.py env)
      standAt q
      holding [v, ov, iv] (setItem ov iv v)
      release [v, ov, iv] []) := by
  cases i <;> (rw [E.py]; intro v; rfl)
mutual
theorem sS : ∀ (t : T) {X : Cx}, Gd X c Γ tb n → (∀ q, (Γ.fn q).length ≤ 900) → X.xe = (fun _ _ => False) → okS tb X.N X.env.scope X.fn t = true → PS X t.py (tS c (exec Γ t))
  | .pass p, X, G, hb, hx, ok => by rw [T.py, exec]; exact s_pass
  | .exp e p, X, G, hb, hx, ok => by
    rw [okS] at ok
    simp only [Bool.and_eq_true, Bool.not_eq_true'] at ok
    rw [T.py, exec]
    exact s_exp (ps_expr (sE e G ok.1).1 (E.noswap ok.2 _ _ _))
  | .set m e p, X, G, hb, hx, ok => by
    rw [okS] at ok
    simp only [Bool.and_eq_true] at ok
    rw [T.py, exec]
    exact s_set G ok.1.1 ok.1.2 ok.2
  | .asg t e p, X, G, hb, hx, ok => by
    rw [okS] at ok
    simp only [Bool.and_eq_true, Bool.or_eq_true, Bool.not_eq_true'] at ok
    rw [T.py, exec]
    refine s_asg (ps_asg (sE e G ok.1.1.2).1 (sT G.nd G.calm t ok.1.1.1) ?_ (okAsg_ok (k := 0) (p := p) ok.2) ?_)
    · rcases ok.1.2 with z | z
      · exact E.noswap z _ _ _
      · cases t with
        | nm => simp [isTp] at z
        | tp ts k q => rw [Tg.py]; cases e <;> (rw [E.py]; rfl)
    · rw [Tg.eachCons]; rfl
  | .par ns kt pt es ke pe p, X, G, hb, hx, ok => by
    rw [okS] at ok
    simp only [Bool.and_eq_true] at ok
    rw [T.py, exec]
    exact s_par G ok.1.1 ok.1.2 ok.2
  | .subnm j k kk pk q m kt pt e p, X, G, hb, hx, ok => by
    rw [okS] at ok
    simp only [Bool.and_eq_true, Bool.not_eq_true'] at ok
    obtain ⟨⟨⟨⟨o1, o2⟩, o3⟩, o4⟩, o5⟩ := ok
    rw [T.py, exec]
    obtain ⟨k1, k2, k3⟩ := okNm_ok o2
    have ih := i_subnm (c := c) (j := j.i) (i := m.i) (kk := k) (m := den Γ e)
    rw [← G.K] at ih
    exact pimpS (ps_asg (sE e G o3).1 (pg_tup G.calm (pgs_cons (pg_sub (name_ok o1) pe_int set_list) (pgs_cons (pg_name G.nd k1 k2 k3) pgs_nil))) (E.noswapS o4 _ _ _) (notTup_ok o5) rfl) ih
  | .setI j i q e p, X, G, hb, hx, ok => by
    rw [okS] at ok
    simp only [Bool.and_eq_true, Bool.not_eq_true'] at ok
    rw [T.py, exec]
    exact pimpS (ps_asg (sE e G ok.1.2).1 (pg_sub (name_ok ok.1.1.1) (sE i G ok.1.1.2).1 set_list (i.assignSub _ _ _)) (E.noswapS ok.2 _ _ _) rfl rfl) i_setI
  | .setF j k f q e p, X, G, hb, hx, ok => by
    rw [okS] at ok
    simp only [Bool.and_eq_true, Bool.not_eq_true'] at ok
    rw [T.py, exec]
    have ih := i_setF (c := c) (Γ := Γ) G.fnm G.cls hb (j := j.i) (k := k) (f := f) (m := den Γ e)
    rw [← G.K] at ih
    exact pimpS (ps_fld (name_ok ok.1.1) (sE e G ok.1.2).1 (E.noswap ok.2 _ _ _)) ih
  | .iff t a b p, X, G, hb, hx, ok => by
    rw [okS] at ok
    simp only [Bool.and_eq_true] at ok
    rw [T.py, exec]
    exact s_if (ps_if ((sE t G ok.1.1.1).2 ok.1.1.2) (sSs a G hb hx ok.1.2) (sSs b G hb hx ok.2))
  | .whl t a p, X, G, hb, hx, ok => by
    rw [okS] at ok
    simp only [Bool.and_eq_true] at ok
    rw [T.py, exec]
    exact s_while (ps_while (by rw [hx]; exact PassesOwn.never) ((sE t G ok.1.1).2 ok.1.2) (sSs a G hb hx ok.2))
  | .for t it a p, X, G, hb, hx, ok => by
    rw [okS] at ok
    simp only [Bool.and_eq_true] at ok
    rw [T.py, exec]
    exact s_for (ps_for (by rw [hx]; exact PassesOwn.never) G.calm (sWk it G t ok.1.2) (sT G.nd G.calm t ok.1.1) (sSs a G hb hx ok.2) (it.nofold _))
  | .ret e p, X, G, hb, hx, ok => by
    rw [okS] at ok
    rw [T.py, exec]
    exact s_ret (ps_ret (sE e G ok).1)
  | .retO e p, X, G, hb, hx, ok => by
    rw [okS] at ok
    rw [T.py, exec]
    exact pimpS (ps_ret (sOE e G ok)) i_retO
  | .setII j i q1 i2 q2 e p, X, G, hb, hx, ok => by
    rw [okS] at ok
    simp only [Bool.and_eq_true, Bool.not_eq_true'] at ok
    obtain ⟨⟨⟨⟨o1, o2⟩, o3⟩, o4⟩, o5⟩ := ok
    rw [T.py, exec]
    have hix : IxR X (rIx c.K) := by rw [← G.K]; exact ix_seq
    exact pimpS (ps_asg (sE e G o4).1 (pg_sub (pe_ix hix (name_ok o1) (sE i G o2).1 i.plainIx) (sE i2 G o3).1 set_list (i2.assignSub _ _ _)) (E.noswapS o5 _ _ _) rfl rfl) i_setII
  | .bad st, X, G, hb, hx, ok => by
    rw [T.py, exec]
    exact s_bad
theorem sSs : ∀ (t : Ts) {X : Cx}, Gd X c Γ tb n → (∀ q, (Γ.fn q).length ≤ 900) → X.xe = (fun _ _ => False) → okSs tb X.N X.env.scope X.fn t = true → PSs X t.py (tS c (execs Γ t))
  | .nil, X, G, hb, hx, ok => by rw [Ts.py, execs]; exact s_nil
  | .cons t ts, X, G, hb, hx, ok => by
    rw [okSs, Bool.and_eq_true] at ok
    rw [Ts.py, execs]
    exact s_cons (sS t G hb hx ok.1) (sSs ts G hb hx ok.2)
end
end
end Dm

/-! The D machine: whole programs. -/
namespace Dm
open PySem L2 PyProof.Rows

structure DI where
  x : Str
  qual : Str
  cls : Option Str
  pl : Bool
  ps : List Str
  N : List Str
  args : Arguments
  sc : Scope
  body : Ts
structure Pg where
  defs : List DI
  globs : List (Str × D)
  clss : List (Str × Nat × List Str)
  kws : List (Nat × List Str × List Nat)
  lens : List (Nat × Nat)
  eqs : List (Nat × Nat)
  inss : List (Nat × Str)
def Pg.tb (P : Pg) : Tb := ⟨P.globs.map (·.1), P.defs.map fun d => ⟨d.x, d.ps, d.pl⟩, P.clss.map fun q => (q.1, q.2.1), P.kws, P.lens, P.eqs, P.inss⟩
def Pg.fn (P : Pg) (k : Nat) : List Str := match P.clss[k]? with | some q => q.2.2 | none => []
def Pg.glob (P : Pg) (g : Nat) : Option D := match P.globs[g]? with | some q => some q.2 | none => none
def runDef (Γ : Env) (d : DI) (sl : List Slot) (S : List OD) : Option (OD × List OD) :=
  if sl.length = d.ps.length then
    match execs Γ d.body ⟨sl ++ List.replicate (d.N.length - d.ps.length) .no, S⟩ with
    | some (.rt o, s') => some (o, s'.S)
    | some (.nx, s') => some (.leaf .non, s'.S)
    | _ => none
  else none
def callN (P : Pg) (wf : Nat) : Nat → CallF
  | 0 => fun _ _ _ => none
  | n + 1 => fun f sl S => match P.defs[f]? with
    | some d => runDef ⟨callN P wf n, wf, P.glob, P.fn⟩ d sl S
    | none => none
def Pg.env (P : Pg) (wf n : Nat) : Env := ⟨callN P wf n, wf, P.glob, P.fn⟩
def okScope (d : DI) : Bool :=
  (match d.sc.kind with | .function => true | _ => false) && !d.sc.isCoroutine && !d.sc.isGenerator && decide d.N.Nodup && decide (d.N.take d.ps.length = d.ps) &&
    (d.ps.all fun x => decide (d.sc.names.lookup x = some .local) || decide (d.sc.names.lookup x = some .cell)) && (d.sc.names.all fun y => decide (y.2 ≠ .free)) && decide (d.ps.length ≤ d.N.length)
def Pg.ok (P : Pg) : Bool := (P.defs.all fun d => okScope d && okSs P.tb d.N d.sc (fun _ => true) d.body) && (P.clss.all fun q => decide (q.2.2.length ≤ 900) && decide q.2.2.Nodup)
theorem okScope_ok {d : DI} (h : okScope d = true) : FnScope d.N d.ps d.sc ∧ d.ps.length ≤ d.N.length := by
  unfold okScope at h
  simp only [Bool.and_eq_true, decide_eq_true_eq, Bool.not_eq_true', List.all_eq_true, Bool.or_eq_true] at h
  obtain ⟨⟨⟨⟨⟨⟨⟨h1, h2⟩, h3⟩, h4⟩, h5⟩, h6⟩, h7⟩, h8⟩ := h
  refine ⟨⟨?_, h2, h3, h4, h5, h6, h7⟩, h8⟩
  split at h1
  · assumption
  · cases h1
/-- what the top has left -/
structure Left (K : PySem.W.Frag) (mg : Str → Option Value) (P : Pg) (c : Cc) (fa : Nat → Addr) (fd : Nat → FuncData) : Prop where
  hK : c.K = K
  fnm : c.fn = P.fn
  defs : ∀ (f : Nat) (d : DI), P.defs[f]? = some d → FunD K d.x d.qual d.args d.body.py d.sc [] [] (fa f) (fd f) ∧ Binds K (fd f) d.ps []
  mgd : ∀ (f : Nat) (d : DI), P.defs[f]? = some d → d.pl = true → mg d.x = some (.ref (fa f)) ∧ PySem.W.keepIn K (.ref (fa f)) = true
  clss : ∀ (k : Nat) (x : Str) (f : Nat) (fs : List Str), P.clss[k]? = some (x, f, fs) → mg x = some (.ref (c.cl k)) ∧ Mk K (c.cl k) (fa f) ∧ Cls K (c.cl k) ∧ ∀ g ∈ fs, NoAttr K (c.cl k) g
  kbs : ∀ (f : Nat) (d : DI) (ks : List Str) (π : List Nat), P.defs[f]? = some d → (f, ks, π) ∈ P.kws → KBn K (fd f) d.ps 0 ks (fun _ ws => perm π ws) (fun _ zs => perm π zs)
  lens : ∀ k f, (k, f) ∈ P.lens → PySem.W.findIn K (.ref (c.cl k)) "__len__" = some (some (.ref (fa f))) ∧ PySem.W.isFn K (.ref (fa f)) = true
  eqs : ∀ k f, (k, f) ∈ P.eqs → PySem.W.findIn K (.ref (c.cl k)) "__eq__" = some (some (.ref (fa f))) ∧ PySem.W.isFn K (.ref (fa f)) = true
  inss : ∀ k x, (k, x) ∈ P.inss → mg x = some (.ref (c.cl k)) ∧ C8.InsC K (c.cl k)
  blt : ∀ x ∈ bltNames, mg x = none
  glob : ∀ (g : Nat) (x : Str) (d : D), P.globs[g]? = some (x, d) → ∃ u v, mg x = some u ∧ L2.RelV v u ∧ ∀ w H, Is c w H v d
section
variable {Pr : Program} {wd : World} {K : PySem.W.Frag} {mg : Str → Option Value} {base : Heap} {P : Pg} {c : Cc} {fa : Nat → Addr} {fd : Nat → FuncData} {wf : Nat}
theorem spD_len {n f : Nat} {call : CallF} {vs : List V} {H : Hp} {Q : VK} {E : XK} (h : spD c n call f vs H Q E) : vs.length = n := by
  obtain ⟨w, rs, S, sl, o, S', h1, h2, _⟩ := h
  rw [h2.length, h1]
theorem start_rel {N : List Str} {w : Wm} {rs : List V} {H : Hp} {vs : List V} {sl : List Slot} {S : List OD} (a : ArgsOk c w rs H vs sl) (cs : CellsOk c w rs S H) : Rel c w rs ⟨sl ++ List.replicate (N.length - sl.length) .no, S⟩ (L2.start N vs) H := by
  refine ⟨?_, fun i y x e1 e2 => ?_, cs⟩
  · unfold L2.start
    rw [List.length_append, List.length_append, List.length_replicate, List.length_replicate, List.length_map, a.length]
  · unfold L2.start at e2
    have hl := a.length
    by_cases hi : i < sl.length
    · have e1 : (sl ++ List.replicate (N.length - sl.length) Slot.no)[i]? = some y := e1
      rw [List.getElem?_append_left hi] at e1
      rw [List.getElem?_append_left (by rw [List.length_map, hl]; exact hi), List.getElem?_map] at e2
      have main : ∀ {vs : List V} {sl : List Slot}, ArgsOk c w rs H vs sl → ∀ {i : Nat} {y : Slot} {v : V}, sl[i]? = some y → vs[i]? = some v → ArgOk c w rs H v y := by
        intro vs sl h
        induction h with
        | nil => intro i y v e; simp at e
        | cons h _ ih =>
          intro i y v e1 e2
          cases i with
          | zero => simp at e1 e2; subst e1 e2; exact h
          | succ i => exact ih (by simpa using e1) (by simpa using e2)
      cases ev : vs[i]? with
      | none => rw [ev] at e2; cases e2
      | some v =>
        rw [ev] at e2
        cases e2
        have q := main a e1 ev
        cases y with
        | val d => exact ⟨v, rfl, q⟩
        | ref j => exact ⟨v, rfl, q⟩
        | no => trivial
        | own => exact q.elim
    · have e1 : (sl ++ List.replicate (N.length - sl.length) Slot.no)[i]? = some y := e1
      rw [List.getElem?_append_right (by omega)] at e1
      have := List.mem_of_getElem? e1
      rw [List.mem_replicate] at this
      rw [this.2]
      trivial
theorem all_ok (L : Left K mg P c fa fd) (ok : P.ok = true) : ∀ (n f : Nat) (d : DI), P.defs[f]? = some d → FnOk Pr wd K mg base L2.CX0 (2 * n) (fa f) (fd f) d.ps (spD c d.ps.length (callN P wf n) f)
  | 0, f, d, e => ⟨fun vs H Q E h => spD_len h, fun A outer s H args us vs Q E _ _ _ _ h => by
      obtain ⟨w, rs, S, sl, o, S', _, _, _, _, h5, _⟩ := h
      rw [callN] at h5; cases h5⟩
  | n + 1, f, d, e => by
    unfold Pg.ok at ok
    rw [Bool.and_eq_true, List.all_eq_true, List.all_eq_true] at ok
    have od := ok.1 d (List.mem_of_getElem? e)
    rw [Bool.and_eq_true] at od
    obtain ⟨sc, hpn⟩ := okScope_ok od.1
    have hcl : ∀ (k : Nat) (x : Str) (f : Nat) (fs : List Str), P.clss[k]? = some (x, f, fs) → fs.length ≤ 900 ∧ fs.Nodup := fun k x f fs h => by
      have := ok.2 _ (List.mem_of_getElem? h)
      simpa using this
    have okP : P.ok = true := by
      unfold Pg.ok
      rw [Bool.and_eq_true, List.all_eq_true, List.all_eq_true]
      exact ok
    refine (L.defs f d e).1.ok (k := 2 * n + 1) sc (fun vs H Q E h => spD_len h) (fun cdv A outer s H vs Q E hr h => ⟨tS c (execs (P.env wf n) d.body), PSs.nox ?_, ?_⟩)
    · -- the body
      refine sSs d.body (Γ := P.env wf n) (tb := P.tb) (n := n) ⟨L.hK.symm, sc.nd, rfl, hr, L.fnm, fun q hq => ?_, L.blt, fun g x dd h1 h2 => ?_, fun f' fi h1 h2 => ?_, fun k f' fi h1 h2 => ?_, fun k f' fi h1 h2 => ?_, L.inss, fun k x f' fi h1 h2 => ?_⟩ (fun q => ?_) rfl od.2
      · -- classes
        have hq : P.fn q ≠ [] := hq
        unfold Pg.fn at hq
        split at hq
        · rename_i qq eq
          obtain ⟨x, f', fs⟩ := qq
          obtain ⟨_, _, l3, l4⟩ := L.clss q x f' fs eq
          have hfn : c.fn q = fs := by
            rw [L.fnm]; unfold Pg.fn; rw [eq]
          exact ⟨by rw [L.hK]; exact l3, by rw [hfn]; exact (hcl _ _ _ _ eq).2, by rw [hfn, L.hK]; exact l4⟩
        · exact absurd rfl hq
      · have h2 : P.glob g = some dd := h2
        unfold Pg.glob at h2
        split at h2
        · rename_i qq eq
          cases h2
          obtain ⟨y, dd⟩ := qq
          have : y = x := by
            have h1 : (P.globs.map (·.1))[g]? = some x := h1
            rw [List.getElem?_map, eq] at h1
            simpa using h1
          subst this
          exact L.glob g y dd eq
        · cases h2
      · have h1 : (P.defs.map fun d => (⟨d.x, d.ps, d.pl⟩ : FI))[f']? = some fi := h1
        rw [List.getElem?_map, Option.map_eq_some_iff] at h1
        obtain ⟨d', e', rfl⟩ := h1
        obtain ⟨m1, m2⟩ := L.mgd f' d' e' h2
        exact ⟨fa f', fd f', m1, m2, (L.defs f' d' e').2, all_ok L okP n f' d' e', fun ks π hk => L.kbs f' d' ks π e' hk⟩
      · have h2 : (P.defs.map fun d => (⟨d.x, d.ps, d.pl⟩ : FI))[f']? = some fi := h2
        rw [List.getElem?_map, Option.map_eq_some_iff] at h2
        obtain ⟨d', e', rfl⟩ := h2
        obtain ⟨l1, l2⟩ := L.lens k f' h1
        exact ⟨fa f', fd f', l1, l2, (L.defs f' d' e').2, all_ok L okP n f' d' e'⟩
      · have h2 : (P.defs.map fun d => (⟨d.x, d.ps, d.pl⟩ : FI))[f']? = some fi := h2
        rw [List.getElem?_map, Option.map_eq_some_iff] at h2
        obtain ⟨d', e', rfl⟩ := h2
        obtain ⟨l1, l2⟩ := L.eqs k f' h1
        exact ⟨fa f', fd f', l1, l2, (L.defs f' d' e').2, all_ok L okP n f' d' e'⟩
      · have h2 : (P.defs.map fun d => (⟨d.x, d.ps, d.pl⟩ : FI))[f']? = some fi := h2
        rw [List.getElem?_map, Option.map_eq_some_iff] at h2
        obtain ⟨d', e', rfl⟩ := h2
        have h1 : (P.clss.map fun q => (q.1, q.2.1))[k]? = some (x, f') := h1
        rw [List.getElem?_map, Option.map_eq_some_iff] at h1
        obtain ⟨⟨y, f'', fs⟩, e2, e3⟩ := h1
        injection e3 with e3 e4
        subst e3 e4
        obtain ⟨l1, l2, _, _⟩ := L.clss k _ _ fs e2
        exact ⟨fa _, fd _, l1, l2, (L.defs _ d' e').2, all_ok L okP n _ d' e'⟩
      · show (P.fn q).length ≤ 900
        unfold Pg.fn
        split
        · rename_i qq eq
          obtain ⟨x, f', fs⟩ := qq
          exact (hcl _ _ _ _ eq).1
        · exact Nat.zero_le _
    · obtain ⟨w, rs, S, sl, o, S', h1, h2, h3, h4, h5, h6⟩ := h
      rw [callN] at h5
      simp only [e] at h5
      unfold runDef at h5
      rw [if_pos h1] at h5
      split at h5
      · rename_i o' s' ex
        cases h5
        rw [← h1] at ex
        exact ⟨w, rs, _, _, s', start_rel h2 h3, ex, fun σ' H' w' R' st v q => h6 v H' w' R'.st q st⟩
      · rename_i s' ex
        cases h5
        rw [← h1] at ex
        exact ⟨w, rs, _, _, s', start_rel h2 h3, ex, fun σ' H' w' R' st => h6 .non H' w' R'.st (.leaf .non) st⟩
      · cases h5
end
end Dm

/-! The D machine: what the top leaves. -/
namespace Dm
open PySem L2 PyProof.Rows
def DI.at_ (d : DI) : Str × Option Str := match d.cls with
  | none => (d.x, none)
  | some C => (C, some d.x)
def DI.he (d : DI) : He.DefD := { at_ := d.at_, name := d.x, qual := d.qual, params := d.args, body := d.body.py, scope := d.sc }
def Pg.fnH (P : Pg) : List He.DefD := P.defs.map DI.he
def gloFa (q : Str × D) : He.Fa := match q.2 with
  | .int i => .int q.1 i
  | .str z => .str q.1 z
  | _ => .glo q.1
def gloOk (q : Str × D) : Bool := match q.2 with
  | .int _ => true
  | .str _ => true
  | _ => false
def Pg.cn (P : Pg) (k : Nat) : Str := match P.clss[k]? with
  | some q => q.1
  | none => ""
def Pg.faH (P : Pg) : List He.Fa :=
  ((P.defs.filter (·.pl)).map fun d => He.Fa.glo d.x) ++ P.globs.map gloFa ++ bltNames.map He.Fa.free ++
  (P.clss.flatMap fun q => [He.Fa.glo q.1, .cls q.1, .mkr q.1] ++ q.2.2.map fun f => He.Fa.noat q.1 f) ++
  (P.lens.map fun q => He.Fa.meth (P.cn q.1) "__len__") ++ (P.eqs.map fun q => He.Fa.meth (P.cn q.1) "__eq__")
def insB (K : PySem.W.Frag) (C : Addr) : Bool :=
  decide (PySem.W.findIn K (.ref C) "__class__" = some (some (.builtin "object.__class__"))) && decide (PySem.W.specialIn K (.builtin "object.__class__") "__get__" = some (some (.builtin "getset_descriptor.__get__"))) &&
  decide (PySem.W.takesIn K (.builtin "object.__class__") = some true) && decide (PySem.W.mroIn K C (.type "object") = some true) && decide (PySem.W.kitOne K (.ref C) (.ref C) = some true)
def Pg.exH (P : Pg) (K : PySem.W.Frag) : Bool := P.inss.all fun q => insB K (He.ga K q.2)
/-- the shape of the tables -/
def Pg.okH (P : Pg) : Bool :=
  P.globs.all gloOk && (P.defs.all fun d => d.pl == d.cls.isNone) &&
  (P.clss.all fun q => match P.defs[q.2.1]? with | some d => decide (d.at_ = (q.1, some ("__init__" : Str))) | none => false) &&
  (P.lens.all fun q => match P.defs[q.2]? with | some d => decide (d.at_ = (P.cn q.1, some ("__len__" : Str))) | none => false) &&
  (P.eqs.all fun q => match P.defs[q.2]? with | some d => decide (d.at_ = (P.cn q.1, some ("__eq__" : Str))) | none => false) &&
  (P.inss.all fun q => decide (P.cn q.1 = q.2) && decide (q.1 < P.clss.length))
def Pg.faA (P : Pg) (K : PySem.W.Frag) (f : Nat) : Addr := match P.defs[f]? with
  | some d => He.fAd K d.at_
  | none => 0
def Pg.cc (P : Pg) (K : PySem.W.Frag) : Cc := ⟨K, fun k => He.ga K (P.cn k), P.fn⟩
/-- how the defs bind -/
structure BindOk (P : Pg) : Prop where
  pos : ∀ (f : Nat) (d : DI), P.defs[f]? = some d → ∀ (kV doc pm : Value) (an : Option Addr) (cdv ct : Value) (us : List Value), us.length = d.ps.length → bindArgs (PySem.W.fnOf d.x d.qual d.args d.body.py d.sc .none kV doc pm an cdv ct) ⟨us, []⟩ = pure (d.ps.zip us)
  kw : ∀ (f : Nat) (d : DI) (ks : List Str) (π : List Nat), P.defs[f]? = some d → (f, ks, π) ∈ P.kws → ∀ (kV doc pm : Value) (an : Option Addr) (cdv ct : Value) (ws : List Value), ws.length = ks.length → bindArgs (PySem.W.fnOf d.x d.qual d.args d.body.py d.sc .none kV doc pm an cdv ct) ⟨[], ks.zip ws⟩ = pure (d.ps.zip (perm π ws))
theorem kbn_of {K : PySem.W.Frag} {x qual : Str} {params : Arguments} {body : List Stmt} {scope : Scope} {f : Addr} {fd : FuncData} {ps ks : List Str} {π : List Nat} (F : FunD K x qual params body scope [] [] f fd)
    (h : ∀ (kV doc pm : Value) (an : Option Addr) (cdv ct : Value) (ws : List Value), ws.length = ks.length → bindArgs (PySem.W.fnOf x qual params body scope .none kV doc pm an cdv ct) ⟨[], ks.zip ws⟩ = pure (ps.zip (perm π ws))) : KBn K fd ps 0 ks (fun _ ws => perm π ws) (fun _ zs => perm π zs) := by
  obtain ⟨oc, od, dV, kV, doc, pm, an, cdv, ct, osl, rfl, lk, hcd, hD, hK⟩ := F.ex
  rcases hD with ⟨_, rfl⟩ | ⟨e, _⟩
  · refine ⟨fun s us ws X l1 l2 => ?_, fun r1 r2 => perm_rel π r2⟩
    cases us with
    | nil => exact .of_eq (h kV doc pm an cdv ct ws l2)
    | cons => cases l1
  · exact absurd rfl e
theorem left_of {P : Pg} {K : PySem.W.Frag} {h : Heap} {mg : Str → Option Value} (X : K.In h) (G : h.Ns mainGlobals mg) (c : He.SaysD P.faH P.fnH K) (ex : P.exH K = true) (ok : P.okH = true) (B : BindOk P) : ∃ fd : Nat → FuncData, Left K mg P (P.cc K) (P.faA K) fd := by
  unfold Pg.okH at ok
  simp only [Bool.and_eq_true, List.all_eq_true] at ok
  obtain ⟨⟨⟨⟨⟨o1, o2⟩, o3⟩, o4⟩, o5⟩, o6⟩ := ok
  have hdef : ∀ f : Nat, ∃ fd, ∀ d, P.defs[f]? = some d → FunD K d.x d.qual d.args d.body.py d.sc [] [] (P.faA K f) fd := fun f => by
    cases e : P.defs[f]? with
    | none => exact ⟨default, fun d z => by cases z⟩
    | some d =>
      have hm : d.he ∈ P.fnH := List.mem_map.mpr ⟨d, List.mem_of_getElem? e, rfl⟩
      obtain ⟨fd, F⟩ := c.defs hm
      refine ⟨fd, fun d' z => ?_⟩
      cases z
      unfold Pg.faA
      rw [e]
      exact F
  obtain ⟨fd, hfd⟩ := Classical.axiomOfChoice hdef
  have bindN : ∀ (f : Nat) (d : DI) (e : P.defs[f]? = some d), Binds K (fd f) d.ps [] := fun f d e => (hfd f d e).bindsN (B.pos f d e)
  have mem : ∀ {x : He.Fa}, x ∈ P.faH → x.ok K = true := fun hx => c.facts hx
  have cn_of : ∀ {k : Nat} {x : Str} {f : Nat} {fs : List Str}, P.clss[k]? = some (x, f, fs) → P.cn k = x := fun {k x f fs} e => by
    unfold Pg.cn; rw [e]
  have clsFa : ∀ {k : Nat} {x : Str} {f : Nat} {fs : List Str}, P.clss[k]? = some (x, f, fs) → ∀ z ∈ ([He.Fa.glo x, .cls x, .mkr x] ++ fs.map fun f => He.Fa.noat x f), z ∈ P.faH := fun {k x f fs} e z hz => by
    unfold Pg.faH
    refine List.mem_append_left _ (List.mem_append_left _ (List.mem_append_right _ (List.mem_flatMap.mpr ⟨_, List.mem_of_getElem? e, hz⟩)))
  refine ⟨fd, ⟨rfl, rfl, fun f d e => ⟨hfd f d e, bindN f d e⟩, fun f d e hp => ⟨?_, (hfd f d e).kp⟩, fun k x f fs e => ?_, fun f d ks π e hk => kbn_of (hfd f d e) (B.kw f d ks π e hk), fun k f hk => ?_, fun k f hk => ?_, fun k x hk => ?_, fun x hx => ?_, fun g x d e => ?_⟩⟩
  · -- plain defs
    have h2 := o2 d (List.mem_of_getElem? e)
    rw [hp] at h2
    have hc : d.cls = none := by
      cases hc : d.cls with
      | none => rfl
      | some C => rw [hc] at h2; cases h2
    have : P.faA K f = He.ga K d.x := by
      unfold Pg.faA
      rw [e]
      show He.fAd K d.at_ = _
      unfold DI.at_ He.fAd
      rw [hc]
    rw [this]
    refine He.glo_ok X G (mem ?_)
    unfold Pg.faH
    refine List.mem_append_left _ (List.mem_append_left _ (List.mem_append_left _ (List.mem_append_left _ (List.mem_append_left _ (List.mem_map.mpr ⟨d, List.mem_filter.mpr ⟨List.mem_of_getElem? e, hp⟩, rfl⟩)))))
  · -- classes
    have cn := cn_of e
    have h3 := o3 _ (List.mem_of_getElem? e)
    have fac := clsFa e
    show mg x = some (.ref (He.ga K (P.cn k))) ∧ Mk K (He.ga K (P.cn k)) (P.faA K f) ∧ Cls K (He.ga K (P.cn k)) ∧ ∀ g ∈ fs, NoAttr K (He.ga K (P.cn k)) g
    rw [cn]
    refine ⟨He.glo_ok X G (mem (fac _ (by simp))), ?_, He.cls_ok (mem (fac (.cls x) (by simp))), fun g hg => He.noat_ok (mem (fac (.noat x g) (by simp [hg])))⟩
    have mk := He.mkr_ok (mem (fac (.mkr x) (by simp)))
    have : P.faA K f = He.ma K (He.ga K x) "__init__" := by
      unfold Pg.faA
      cases ef : P.defs[f]? with
      | none => simp only [ef] at h3; cases h3
      | some d =>
        simp only [ef, decide_eq_true_eq] at h3
        show He.fAd K d.at_ = _
        rw [h3]; rfl
    rw [this]
    exact mk
  · have h4 := o4 _ hk
    have m := He.meth_ok (mem (x := .meth (P.cn k) "__len__") (by
      unfold Pg.faH
      exact List.mem_append_left _ (List.mem_append_right _ (List.mem_map.mpr ⟨_, hk, rfl⟩))))
    have : P.faA K f = He.ma K (He.ga K (P.cn k)) "__len__" := by
      unfold Pg.faA
      cases ef : P.defs[f]? with
      | none => simp only [ef] at h4; cases h4
      | some d =>
        simp only [ef, decide_eq_true_eq] at h4
        show He.fAd K d.at_ = _
        rw [h4]; rfl
    rw [this]
    exact ⟨m.at_, m.fn⟩
  · have h5 := o5 _ hk
    have m := He.meth_ok (mem (x := .meth (P.cn k) "__eq__") (by
      unfold Pg.faH
      exact List.mem_append_right _ (List.mem_map.mpr ⟨_, hk, rfl⟩)))
    have : P.faA K f = He.ma K (He.ga K (P.cn k)) "__eq__" := by
      unfold Pg.faA
      cases ef : P.defs[f]? with
      | none => simp only [ef] at h5; cases h5
      | some d =>
        simp only [ef, decide_eq_true_eq] at h5
        show He.fAd K d.at_ = _
        rw [h5]; rfl
    rw [this]
    exact ⟨m.at_, m.fn⟩
  · have h6 := o6 _ hk
    simp only [decide_eq_true_eq] at h6
    obtain ⟨q, eq⟩ : ∃ q, P.clss[k]? = some q := ⟨_, List.getElem?_eq_getElem h6.2⟩
    obtain ⟨y, f, fs⟩ := q
    have cn := cn_of eq
    have e1 : y = x := cn.symm.trans h6.1
    subst e1
    have fac := clsFa eq
    show mg y = some (.ref (He.ga K (P.cn k))) ∧ C8.InsC K (He.ga K (P.cn k))
    rw [cn]
    have b := List.all_eq_true.mp ex _ hk
    unfold insB at b
    simp only [Bool.and_eq_true, decide_eq_true_eq] at b
    exact ⟨He.glo_ok X G (mem (fac _ (by simp))), ⟨He.cls_ok (mem (fac (.cls y) (by simp))), b.1.1.1.1, b.1.1.1.2, b.1.1.2, b.1.2, b.2⟩⟩
  · exact He.free_ok X G (mem (by
      unfold Pg.faH
      exact List.mem_append_left _ (List.mem_append_left _ (List.mem_append_left _ (List.mem_append_right _ (List.mem_map.mpr ⟨x, hx, rfl⟩))))))
  · have h1 := o1 _ (List.mem_of_getElem? e)
    have hm : (gloFa (x, d)).ok K = true := mem (by
      unfold Pg.faH
      exact List.mem_append_left _ (List.mem_append_left _ (List.mem_append_left _ (List.mem_append_left _ (List.mem_append_right _ (List.mem_map.mpr ⟨_, List.mem_of_getElem? e, rfl⟩))))))
    cases d with
    | int i =>
      obtain ⟨t, et⟩ := He.int_ok X G (x := x) (i := i) hm
      exact ⟨_, .int i, et, ⟨t, rfl⟩, fun w H => .int i⟩
    | str z =>
      obtain ⟨t, et⟩ := He.str_ok X G (x := x) (z := z) hm
      exact ⟨_, .str z, et, ⟨t, rfl⟩, fun w H => .str z⟩
    | _ => cases h1
end Dm

/-! The D machine: a law's end. -/
namespace Dm
open PySem L2 PyProof.Rows
theorem sp_law {K : PySem.W.Frag} {P : Pg} {call : CallF} {f : Nat} {H : Hp} {a : Addr} {ns : List Int} {E : XK} (hS : SqL K H a (ns.map V.int)) (h : call f [.val (.scr ns)] [] = some (.leaf (.bl true), [])) : spD (P.cc K) 1 call f [.ref a] H (fun v _ => v = .bl true) E := by
  have q : Is (P.cc K) noW H (.ref a) (.scr ns) := by
    refine .scr ?_
    rcases hS with z | z
    · exact .inl ⟨rfl, z⟩
    · exact .inr z
  refine ⟨noW, [], [], [.val (.scr ns)], _, _, rfl, .cons (show ArgOk (P.cc K) noW [] H _ (.val _) from q) .nil, fun j o e => by simp at e, fun a i p z => (by cases z), h, fun v H' wx cs q st => ?_⟩
  cases q with
  | leaf q => cases q; rfl
/-- what walk_ofE asks -/
theorem law_of {P : Pg} {prog : Program} {w : World} {mg : Str → Option Value} {fa : Addr} {h : Heap} {K : PySem.W.Frag} {x y : Str} {f wf n : Nat} {d : DI} (X : K.In h) (G : h.Ns mainGlobals mg) (c : He.SaysD P.faH P.fnH K) (ex : P.exH K = true) (okH : P.okH = true) (ok : P.ok = true) (B : BindOk P)
    (hd : P.defs[f]? = some d) (hp : d.pl = true) (hx : d.x = y) (hps : d.ps = [x]) (hmg : mg y = some (.ref fa)) (main : ∀ ns : List Int, ns.length ≤ 63 → callN P wf n f [.val (.scr ns)] [] = some (.leaf (.bl true), [])) :
    ∃ (K : PySem.W.Frag) (fd : FuncData) (sp : Sp), K.In h ∧ (∀ (s : Shared) (u : Value), BindsTo s fd ⟨[u], []⟩ [(x, u)]) ∧
        (∀ (H : Hp) (a : Addr) (ns : List Int), ns.length ≤ 63 → Only H → SqL K H a (ns.map V.int) → sp [.ref a] H (fun v _ => v = .bl true) fun _ _ _ => False) ∧
        ∀ base : Heap, K.In base → base.Ns mainGlobals mg → FnOk prog w K mg base L2.CX0 (2 * n) fa fd [x] sp := by
  obtain ⟨fd, L⟩ := left_of X G c ex okH B
  have hm := (L.mgd f d hd hp).1
  rw [hx, hmg] at hm
  cases hm
  refine ⟨K, fd f, spD (P.cc K) 1 (callN P wf n) f, X, fun s u => ?_, fun H a ns hl _ hS => sp_law hS (main ns hl), fun base _ _ => ?_⟩
  · have b := (L.defs f d hd).1.bindsA (ps := d.ps) (B.pos f d hd) s [u] (by rw [hps]; rfl)
    rw [hps] at b
    exact b
  · have := all_ok (Pr := prog) (wd := w) (base := base) (wf := wf) L ok n f d hd
    rw [hps] at this
    exact this
end Dm

/-! The D machine by itself: rules for loops. -/
namespace Dm
open PySem L2
inductive All2 {α β : Type} (R : α → β → Prop) : List α → List β → Prop
  | nil : All2 R [] []
  | cons {x : α} {y : β} {xs : List α} {ys : List β} : R x y → All2 R xs ys → All2 R (x :: xs) (y :: ys)
theorem back_wipe {L0 L L' : List Slot} {ids : List Nat} (h : wipeL L' ids = wipeL L ids) : backL L0 L' ids = backL L0 L ids := by
  have hlen : L'.length = L.length := by
    have := congrArg List.length h
    rw [wipeL_length, wipeL_length] at this
    exact this
  apply List.ext_getElem?
  intro i
  by_cases hi : i ∈ ids
  · by_cases hl : i < L.length
    · rw [backL_in hi (by omega), backL_in hi hl]
    · rw [List.getElem?_eq_none (by rw [backL_length]; omega), List.getElem?_eq_none (by rw [backL_length]; omega)]
  · rw [backL_out hi, backL_out hi]
    have := congrArg (·[i]?) h
    simp only [wipeL_out hi] at this
    exact this
theorem run_sp {α : Type} {ids : List Nat} {t : Tg} {body : M (List α)} (P : List OD → Prop) (Q : D → List α → Prop) {L0 : List Slot} :
    ∀ {items : List D}, (∀ x ∈ items, ∀ S, P S → ∃ ys S' L', P S' ∧ Q x ys ∧ (bnd (setT t x) fun _ => body) ⟨L0, S⟩ = some (ys, ⟨L', S'⟩) ∧ wipeL L' ids = L0) →
    ∀ {L : List Slot} {S : List OD}, wipeL L ids = L0 → P S → ∃ yss S' L', P S' ∧ All2 Q items yss ∧ runItems ids t body items ⟨L, S⟩ = some (yss.flatten, ⟨L', S'⟩) ∧ wipeL L' ids = L0
  | [], h, L, S, hL, hP => ⟨[], S, L, hP, .nil, rfl, hL⟩
  | x :: items, h, L, S, hL, hP => by
    obtain ⟨ys, S1, L1, p1, q1, e1, w1⟩ := h x List.mem_cons_self S hP
    obtain ⟨yss, S2, L2, p2, q2, e2, w2⟩ := run_sp P Q (fun y hy => h y (List.mem_cons_of_mem _ hy)) w1 p1
    refine ⟨ys :: yss, S2, L2, p2, .cons q1 q2, ?_, w2⟩
    obtain ⟨u, s1, e3, e4⟩ := bnd_some.mp e1
    rw [runItems]
    simp only [bnd, hL, e3, e4, e2, ret]
    rfl
variable {Γ : Env} {elt : E} {t : Tg} {it : Wk} {ifs : Es} {sc : Scope} {q p : Pos} {x y : Str} {i : Nat} {L : List Slot} {S S1 : List OD} {items : List D} {ids : List Nat} {own : List (Str × Nat)}
theorem inBlk_sp {α : Type} {m : M (List α)} {ys : List α} {L' : List Slot} {S' : List OD} (h : m ⟨L, S⟩ = some (ys, ⟨L', S'⟩)) (hw : wipeL L' ids = wipeL L ids) (hb : backL L L ids = L) (hz : ys.length ≤ sizeLine) : inBlk ids m ⟨L, S⟩ = some (ys, ⟨L, S'⟩) := by
  unfold inBlk
  rw [h]
  simp only []
  rw [if_pos hz, back_wipe hw, hb]
theorem inScope_sp {m : M (List D)} {ys : List D} {L' : List Slot} {S' : List OD} (h : m ⟨L, S⟩ = some (ys, ⟨L', S'⟩)) (hw : wipeL L' ids = wipeL L ids) (hb : backL L L ids = L) (hz : ys.length ≤ sizeLine) : inScope ids m ⟨L, S⟩ = some (.lst ys, ⟨L, S'⟩) := by
  unfold inScope
  rw [h]
  simp only []
  rw [if_pos hz, back_wipe hw, hb]
theorem forall₂_len {α β : Type} {R : α → β → Prop} : ∀ {xs : List α} {ys : List β}, All2 R xs ys → xs.length = ys.length
  | _, _, .nil => rfl
  | _, _, .cons _ r => by rw [List.length_cons, List.length_cons, forall₂_len r]
theorem forall₂_one {α β : Type} {R : α → β → Prop} : ∀ {xs : List α} {yss : List (List β)}, All2 (fun x ys => ∃ y, ys = [y] ∧ R x y) xs yss → All2 R xs yss.flatten
  | _, _, .nil => .nil
  | _, _, .cons ⟨y, e, h⟩ r => by subst e; exact .cons h (forall₂_one r)
theorem forall₂_map {α β : Type} {f : α → β} : ∀ {xs : List α} {ys : List β}, All2 (fun x y => y = f x) xs ys → ys = xs.map f
  | _, _, .nil => rfl
  | _, _, .cons h r => by rw [List.map_cons, h, forall₂_map r]
theorem forall₂_mono {α β : Type} {R R' : α → β → Prop} (h : ∀ x y, R x y → R' x y) : ∀ {xs : List α} {ys : List β}, All2 R xs ys → All2 R' xs ys
  | _, _, .nil => .nil
  | _, _, .cons a r => .cons (h _ _ a) (forall₂_mono h r)
theorem forall₂_right {α β : Type} {R : β → Prop} : ∀ {xs : List α} {ys : List β}, All2 (fun _ y => R y) xs ys → ∀ y ∈ ys, R y
  | _, _, .nil, y, h => nomatch h
  | _, _, .cons a r, y, h => by
    rcases List.mem_cons.mp h with rfl | h
    · exact a
    · exact forall₂_right r y h
/-- one target, no tests -/
theorem run1 {α : Type} {me : M α} (P : List OD → Prop) (Q : D → α → Prop) (hi : i < L.length)
    (h : ∀ v ∈ items, ∀ S, P S → ∃ a S', P S' ∧ Q v a ∧ me ⟨L.set i (.val v), S⟩ = some (a, ⟨L.set i (.val v), S'⟩)) (hP : P S) :
    ∃ ys S' L', P S' ∧ All2 Q items ys ∧ runItems [i] (.nm i x p) (bnd (denIfs Γ .nil) fun c => if c then bnd me fun d => ret [d] else ret []) items ⟨L, S⟩ = some (ys, ⟨L', S'⟩) ∧ wipeL L' [i] = wipeL L [i] := by
  obtain ⟨yss, S', L', p1, p2, p3, p4⟩ := run_sp (ids := [i]) (t := .nm i x p) (body := bnd (denIfs Γ .nil) fun c => if c then bnd me fun d => ret [d] else ret []) (items := items) P (fun v ys => ∃ a, ys = [a] ∧ Q v a) (L0 := wipeL L [i]) (fun v hv S2 hS => by
    obtain ⟨a, S3, h1, h2, h3⟩ := h v hv S2 hS
    refine ⟨[a], S3, L.set i (.val v), h1, ⟨a, rfl, h2⟩, ?_, by simp [wipeL]⟩
    have e1 : setT (.nm i x p) v ⟨wipeL L [i], S2⟩ = some ((), ⟨L.set i (.val v), S2⟩) := by
      simp [setT, setV, wipeL, hi]
    simp only [bnd, e1, denIfs, ret, h3, if_true]) (L := L) rfl hP
  exact ⟨yss.flatten, S', L', p1, forall₂_one p2, p3, p4⟩
theorem back1 (hb : L[i]? = some .no ∨ ∃ d, L[i]? = some (.val d)) : backL L L [i] = L := by
  apply List.ext_getElem?
  intro j
  have hi : i < L.length := by
    rcases hb with h | ⟨d, h⟩ <;> exact (List.getElem?_eq_some_iff.mp h).1
  by_cases hj : j = i
  · subst hj
    rw [backL_in (by simp) hi]
    unfold keepV
    rcases hb with h | ⟨d, h⟩ <;> rw [h]
  · rw [backL_out (by simpa using hj)]
theorem comp1 (P : List OD → Prop) (Q : D → D → Prop) (hb : L[i]? = some .no ∨ ∃ d, L[i]? = some (.val d)) (hit : denIt Γ it ⟨L, S⟩ = some (items, ⟨L, S1⟩)) (hz : items.length ≤ sizeLine)
    (h : ∀ v ∈ items, ∀ S, P S → ∃ a S', P S' ∧ Q v a ∧ den Γ elt ⟨L.set i (.val v), S⟩ = some (a, ⟨L.set i (.val v), S'⟩)) (hP : P S1) :
    ∃ ys S', P S' ∧ All2 Q items ys ∧ den Γ (.comp elt (.nm i x p) it .nil sc [(y, i)] q) ⟨L, S⟩ = some (.lst ys, ⟨L, S'⟩) := by
  have hi : i < L.length := by
    rcases hb with h | ⟨d, h⟩ <;> exact (List.getElem?_eq_some_iff.mp h).1
  obtain ⟨ys, S', L', p1, p2, p3, p4⟩ := run1 (Γ := Γ) (x := x) (p := p) P Q hi h hP
  refine ⟨ys, S', p1, p2, ?_⟩
  have hz' : ys.length ≤ sizeLine := by rw [← forall₂_len p2]; exact hz
  have hs := inScope_sp p3 p4 (back1 hb) hz'
  simp only [den, bnd, hit]
  exact hs
theorem comp1F (P : List OD → Prop) (Q : D → D → Prop) (hb : L[i]? = some .no ∨ ∃ d, L[i]? = some (.val d)) (hit : denIt Γ it ⟨L, S⟩ = some (items, ⟨L, S1⟩)) (hz : items.length ≤ sizeLine)
    (h : ∀ v ∈ items, ∀ S, P S → ∃ a S', P S' ∧ Q v a ∧ den Γ elt ⟨L.set i (.val v), S⟩ = some (a, ⟨L.set i (.val v), S'⟩)) (hP : P S1) :
    ∃ ys S', P S' ∧ All2 Q items ys ∧ denF Γ (.comp elt (.nm i x p) it .nil sc [(y, i)] q) ⟨L, S⟩ = some (ys, ⟨L, S'⟩) := by
  have hi : i < L.length := by
    rcases hb with h | ⟨d, h⟩ <;> exact (List.getElem?_eq_some_iff.mp h).1
  obtain ⟨ys, S', L', p1, p2, p3, p4⟩ := run1 (Γ := Γ) (x := x) (p := p) P Q hi h hP
  refine ⟨ys, S', p1, p2, ?_⟩
  have hz' : ys.length ≤ sizeLine := by rw [← forall₂_len p2]; exact hz
  have hs := inBlk_sp p3 p4 (back1 hb) hz'
  simp only [denF, bnd, hit]
  exact hs
theorem comp1R (P : List OD → Prop) (Q : D → List D → Prop) (hb : L[i]? = some .no ∨ ∃ d, L[i]? = some (.val d)) (hit : denIt Γ it ⟨L, S⟩ = some (items, ⟨L, S1⟩)) (hz : items.length ≤ sizeLine)
    (h : ∀ v ∈ items, ∀ S, P S → ∃ a S', P S' ∧ Q v a ∧ denF Γ elt ⟨L.set i (.val v), S⟩ = some (a, ⟨L.set i (.val v), S'⟩)) (hP : P S1) :
    ∃ ys S', P S' ∧ All2 Q items ys ∧ denR Γ (.comp elt (.nm i x p) it .nil sc [(y, i)] q) ⟨L, S⟩ = some (ys, ⟨L, S'⟩) := by
  have hi : i < L.length := by
    rcases hb with h | ⟨d, h⟩ <;> exact (List.getElem?_eq_some_iff.mp h).1
  obtain ⟨ys, S', L', p1, p2, p3, p4⟩ := run1 (Γ := Γ) (x := x) (p := p) P Q hi h hP
  refine ⟨ys, S', p1, p2, ?_⟩
  have hz' : ys.length ≤ sizeLine := by rw [← forall₂_len p2]; exact hz
  have hs := inBlk_sp p3 p4 (back1 hb) hz'
  simp only [denR, bnd, hit]
  exact hs
/-- nothing is drawn -/
theorem comp1p (f : D → D) (hb : L[i]? = some .no ∨ ∃ d, L[i]? = some (.val d)) (hit : denIt Γ it ⟨L, S⟩ = some (items, ⟨L, S⟩)) (hz : items.length ≤ sizeLine)
    (h : ∀ v ∈ items, den Γ elt ⟨L.set i (.val v), S⟩ = some (f v, ⟨L.set i (.val v), S⟩)) :
    den Γ (.comp elt (.nm i x p) it .nil sc [(y, i)] q) ⟨L, S⟩ = some (.lst (items.map f), ⟨L, S⟩) := by
  obtain ⟨ys, S', rfl, h2, h3⟩ := comp1 (Γ := Γ) (elt := elt) (x := x) (p := p) (sc := sc) (y := y) (q := q) (fun S' => S' = S) (fun v a => a = f v) hb hit hz (fun v hv S2 e => by subst e; exact ⟨_, _, rfl, rfl, h v hv⟩) rfl
  rw [h3, forall₂_map h2]
/-- loops -/
theorem for_inv {t : Tg} {body : M Fl} (I : St → Prop) : ∀ {items : List D}, (∀ v ∈ items, ∀ s, I s → ∃ s1 s2, setT t v s = some ((), s1) ∧ body s1 = some (.nx, s2) ∧ I s2) → ∀ {s : St}, I s → ∃ s', forM t body items s = some (.nx, s') ∧ I s'
  | [], _, s, hs => ⟨s, rfl, hs⟩
  | v :: items, h, s, hs => by
    obtain ⟨s1, s2, e1, e2, i2⟩ := h v List.mem_cons_self s hs
    obtain ⟨s', e3, i3⟩ := for_inv I (fun y hy => h y (List.mem_cons_of_mem _ hy)) i2
    refine ⟨s', ?_, i3⟩
    rw [forM]
    simp only [bnd, e1, turnEnd, e2, e3]
theorem for_find {t : Tg} {body : M Fl} (I J : St → Prop) (pb : D → Bool) (o : D → OD) : ∀ {items : List D}, (∀ v ∈ items, ∀ s, I s → ∃ s1 s2, setT t v s = some ((), s1) ∧ ((pb v = true ∧ body s1 = some (.rt (o v), s2) ∧ J s2) ∨ (pb v = false ∧ body s1 = some (.nx, s2) ∧ I s2))) →
    ∀ {s : St}, I s → ∃ s', (match items.find? pb with | some v => forM t body items s = some (.rt (o v), s') ∧ J s' | none => forM t body items s = some (.nx, s') ∧ I s')
  | [], _, s, hs => ⟨s, rfl, hs⟩
  | v :: items, h, s, hs => by
    obtain ⟨s1, s2, e1, hh⟩ := h v List.mem_cons_self s hs
    rcases hh with ⟨hp, e2, j2⟩ | ⟨hp, e2, i2⟩
    · refine ⟨s2, ?_⟩
      rw [List.find?_cons, hp]
      refine ⟨?_, j2⟩
      rw [forM]
      simp only [bnd, e1, turnEnd, e2, ret]
    · obtain ⟨s', e3⟩ := for_find I J pb o (fun y hy => h y (List.mem_cons_of_mem _ hy)) i2
      refine ⟨s', ?_⟩
      rw [List.find?_cons, hp]
      simp only []
      split at e3
      · rename_i w hw
        refine ⟨?_, e3.2⟩
        rw [forM]
        simp only [bnd, e1, turnEnd, e2, e3.1]
      · rename_i hw
        refine ⟨?_, e3.2⟩
        rw [forM]
        simp only [bnd, e1, turnEnd, e2, e3.1]
/-- statements -/
theorem r_nx {ts : Ts} {s s1 : St} {tt : T} (h : exec Γ tt s = some (.nx, s1)) : execs Γ (.cons tt ts) s = execs Γ ts s1 := by
  rw [execs]; simp only [andThen, bnd, h]
theorem r_rt {ts : Ts} {s s1 : St} {tt : T} {o : OD} (h : exec Γ tt s = some (.rt o, s1)) : execs Γ (.cons tt ts) s = some (.rt o, s1) := by
  rw [execs]; simp only [andThen, bnd, h, ret]
theorem r_def {d : DI} {sl : List Slot} {S S' : List OD} {o : OD} {L' : List Slot} (hl : sl.length = d.ps.length) (h : execs Γ d.body ⟨sl ++ List.replicate (d.N.length - d.ps.length) .no, S⟩ = some (.rt o, ⟨L', S'⟩)) : runDef Γ d sl S = some (o, S') := by
  unfold runDef
  rw [if_pos hl, h]
theorem bnd_ok {α β : Type} {m : M α} {k : α → M β} {s s1 : St} {a : α} (h : m s = some (a, s1)) : bnd m k s = k a s1 := by
  unfold bnd; rw [h]
theorem mutF_own {j : Nat} {f : List D → Option (D × List D)} {L : List Slot} {S : List OD} {ds ds' : List D} {d : D} (h : L[j]? = some (.own (.fl ds))) (hf : f ds = some (d, ds')) : mutF j f ⟨L, S⟩ = some (d, ⟨L.set j (.own (.fl ds')), S⟩) := by
  unfold mutF
  simp only [h, hf]
theorem v_mth1 {m : Mm} {j : Nat} {x : Str} {p1 p2 p3 : Pos} {e : E} {L L1 : List Slot} {S S1 : List OD} {ds0 ds ds' : List D} {a d : D} (hp : L[j]? = some (.own (.fl ds0))) (he : den Γ e ⟨L, S⟩ = some (a, ⟨L1, S1⟩)) (hL : L1[j]? = some (.own (.fl ds))) (hf : mm1 m a ds = some (d, ds')) :
    den Γ (.mth1 m j x p1 p2 e p3) ⟨L, S⟩ = some (d, ⟨L1.set j (.own (.fl ds')), S1⟩) := by
  rw [den]
  have h1 : peekL j ⟨L, S⟩ = some ((), ⟨L, S⟩) := by unfold peekL peekO; simp only [hp]
  rw [bnd_ok h1, bnd_ok he]
  exact mutF_own hL hf
theorem v_mth0 {m : Mm} {j : Nat} {x : Str} {p1 p2 p3 : Pos} {L : List Slot} {S : List OD} {ds ds' : List D} {d : D} (hp : L[j]? = some (.own (.fl ds))) (hf : mm0 m ds = some (d, ds')) :
    den Γ (.mth0 m j x p1 p2 p3) ⟨L, S⟩ = some (d, ⟨L.set j (.own (.fl ds')), S⟩) := by
  rw [den]
  exact mutF_own hp hf
theorem x_exp {e : E} {p : Pos} {s s1 : St} {d : D} (h : den Γ e s = some (d, s1)) : exec Γ (.exp e p) s = some (.nx, s1) := by
  rw [exec, bnd_ok h]; rfl
theorem mm_append {z : D} {found : List D} (h : found.length < 1000) : mm1 .append z found = some (.non, found ++ [z]) := by
  unfold mm1
  simp only []
  rw [if_pos (by unfold sizeLine; omega)]
theorem ix_nat {n k : Nat} (h : k < n) : ixN n (k : Int) = some k := by
  unfold ixN
  rw [if_pos (by omega), if_pos (by omega)]
  simp
theorem mm_pop {left : List D} {r : Nat} (h2 : left.length < 1000) (hr' : r < left.length) : mm1 .pop (.int r) left = some (left[r], left.eraseIdx r) := by
  unfold mm1
  simp only []
  rw [if_pos (by omega), ix_nat hr']
  simp only [List.getElem?_eq_getElem hr']
theorem mm_ext {x : D} {es ds : List D} (hx : itD x = some es) (h : ds.length + es.length < 1000) : mm1 .extend x ds = some (.non, ds ++ es) := by
  cases x <;> simp only [itD] at hx <;> cases hx
  · unfold mm1
    simp only []
    rw [if_pos (by unfold sizeLine; omega)]
  · unfold mm1
    simp only []
    rw [if_pos (by unfold sizeLine; omega)]
theorem mm_last {ds : List D} {d : D} : mm0 .pop (ds ++ [d]) = some (d, ds) := by
  unfold mm0
  simp
theorem x_setv {e : E} {nm : Nm} {p : Pos} {s : St} {d : D} {L : List Slot} {S : List OD} (h : den Γ e s = some (d, ⟨L, S⟩)) (hi : nm.i < L.length) : exec Γ (.set nm (.v e) p) s = some (.nx, ⟨L.set nm.i (.val d), S⟩) := by
  rw [exec, denOE, bnd_ok (bnd_ok h)]
  simp only [ret, bnd, setSlot, hi, if_true]
theorem v_bin {a b : E} {op : Operator} {p : Pos} {s s1 s2 : St} {x y d : D} (ha : den Γ a s = some (x, s1)) (hb : den Γ b s1 = some (y, s2)) (h : binD op x y = some d) : den Γ (.bin a op b p) s = some (d, s2) := by
  rw [den, bnd_ok ha, bnd_ok hb, h]; rfl
theorem x_ret {e : E} {p : Pos} {s s1 : St} {d : D} (h : den Γ e s = some (d, s1)) : exec Γ (.ret e p) s = some (.rt (.leaf d), s1) := by
  rw [exec, bnd_ok h]; rfl
theorem v_var {i : Nat} {x : Str} {p : Pos} {L : List Slot} {S : List OD} {d : D} (h : L[i]? = some (.val d)) : den Γ (.var i x p) ⟨L, S⟩ = some (d, ⟨L, S⟩) := by
  rw [den]; simp only [readVar, h]
theorem v_con {c : Const} {k : Nat} {p : Pos} {s : St} {d : D} (h : conD c = some d) : den Γ (.con c k p) s = some (d, s) := by
  rw [den, h]; rfl
/-- calls -/
theorem v_call {f : Nat} {x : Str} {p q : Pos} {as : As} {s : St} {sl : List Slot} {L : List Slot} {S S' : List OD} {d : D} (ha : denAs Γ as s = some (sl, ⟨L, S⟩)) (h : Γ.call f sl S = some (.leaf d, S')) : den Γ (.call f x p as q) s = some (d, ⟨L, S'⟩) := by
  rw [den, bnd_ok ha]
  simp only [bnd, doCall, h]
  rfl
theorem a_nil {s : St} : denAs Γ .nil s = some ([], s) := by rw [denAs]; rfl
theorem a_val {e : E} {as : As} {s s1 s2 : St} {d : D} {sl : List Slot} (h : den Γ e s = some (d, s1)) (ha : denAs Γ as s1 = some (sl, s2)) : denAs Γ (.val e as) s = some (.val d :: sl, s2) := by
  rw [denAs, bnd_ok h, bnd_ok ha]; rfl
theorem a_shv {i : Nat} {x : Str} {p : Pos} {as : As} {L : List Slot} {S : List OD} {s2 : St} {d : D} {sl : List Slot} (h : L[i]? = some (.val d)) (ha : denAs Γ as ⟨L, S⟩ = some (sl, s2)) : denAs Γ (.share i x p as) ⟨L, S⟩ = some (.val d :: sl, s2) := by
  rw [denAs]
  simp only [bnd, h, ha, ret]
theorem a_shr {i : Nat} {x : Str} {p : Pos} {as : As} {L : List Slot} {S : List OD} {s2 : St} {j : Nat} {sl : List Slot} (h : L[i]? = some (.ref j)) (ha : denAs Γ as ⟨L, S⟩ = some (sl, s2)) : denAs Γ (.share i x p as) ⟨L, S⟩ = some (.ref j :: sl, s2) := by
  rw [denAs]
  simp only [bnd, h, ha, ret]
theorem x_iff_t {c : E} {a b : Ts} {p : Pos} {s s1 : St} {r : Option (Fl × St)} (h : den Γ c s = some (.bl true, s1)) (ha : execs Γ a s1 = r) : exec Γ (.iff c a b p) s = r := by
  rw [exec, tst, bnd_ok (bnd_ok h)]
  exact ha
theorem x_iff_f {c : E} {a b : Ts} {p : Pos} {s s1 : St} {r : Option (Fl × St)} (h : den Γ c s = some (.bl false, s1)) (ha : execs Γ b s1 = r) : exec Γ (.iff c a b p) s = r := by
  rw [exec, tst, bnd_ok (bnd_ok h)]
  exact ha
theorem x_skip {c : E} {a : Ts} {p : Pos} {s s1 : St} (h : den Γ c s = some (.bl false, s1)) : exec Γ (.iff c a .nil p) s = some (.nx, s1) := x_iff_f h (by rw [execs]; rfl)
theorem v_not {a : E} {p : Pos} {s s1 : St} {b : Bool} (h : den Γ a s = some (.bl b, s1)) : den Γ (.una .Not a p) s = some (.bl !b, s1) := by
  rw [den, unaM, bnd_ok h]; rfl
theorem v_cmp {a b : E} {op : CmpOp} {p : Pos} {s s1 s2 : St} {x y d : D} (na : ∀ i z q, a ≠ .bv i z q) (nb : ∀ i z q, b ≠ .bv i z q) (ha : den Γ a s = some (x, s1)) (hb : den Γ b s1 = some (y, s2)) (h : cmpD op x y = some d) : den Γ (.cmp a op b p) s = some (d, s2) := by
  rw [den]
  have h1 : opn (den Γ b) b = den Γ b := by
    unfold opn
    split
    · exact absurd rfl (nb _ _ _)
    · rfl
  rw [h1]
  unfold cmpM
  split
  · exact absurd rfl (na _ _ _)
  · rw [bnd_ok ha, bnd_ok hb, h]; rfl
theorem v_lrng {e : E} {p1 p2 q2 q1 : Pos} {s s1 : St} {x d : D} (ha : den Γ e s = some (x, s1)) (h : lrngD x = some d) : den Γ (.lrng p1 p2 e q2 q1) s = some (d, s1) := by
  rw [den, bnd_ok ha, h]; rfl
theorem v_ss {e : E} {p1 p2 q2 q1 : Pos} {s s1 : St} {x d : D} (ha : den Γ e s = some (x, s1)) (h : ssD x = some d) : den Γ (.ss p1 p2 e q2 q1) s = some (d, s1) := by
  rw [den, bnd_ok ha, h]; rfl
theorem v_idx {a e : E} {p q : Pos} {s s1 s2 : St} {x y d : D} (ha : den Γ a s = some (x, s1)) (hb : den Γ e s1 = some (y, s2)) (h : idxD x y = some d) : den Γ (.idx a p e q) s = some (d, s2) := by
  rw [den, bnd_ok ha, bnd_ok hb, h]; rfl
theorem v_sub {a b : E} {p : Pos} {s s1 s2 : St} {x y d : D} (na : ∀ i z q, a ≠ .bv i z q) (ha : den Γ a s = some (x, s1)) (hb : den Γ b s1 = some (y, s2)) (h : ixD x y = some d) : den Γ (.sub a b p) s = some (d, s2) := by
  rw [den]
  unfold subM
  split
  · exact absurd rfl (na _ _ _)
  · rw [bnd_ok ha, bnd_ok hb, h]; rfl
theorem v_bi1 {b : Bi} {e : E} {p q : Pos} {s s1 : St} {x d : D} (na : ∀ i z q, e ≠ .bv i z q) (ha : den Γ e s = some (x, s1)) (h : bi1D b x = some d) : den Γ (.bi1 b p e q) s = some (d, s1) := by
  rw [den]
  have h1 : opn (den Γ e) e = den Γ e := by
    unfold opn
    split
    · exact absurd rfl (na _ _ _)
    · rfl
  rw [h1, bnd_ok ha, h]; rfl
end Dm

namespace Dm.K41
open PySem L2 PyProof.Rows Dm
def st0 : Stmt := .Pass ⟨0, 0, 0, 0⟩
def defBody : Stmt → List Stmt
  | .FunctionDef _ _ b _ _ _ _ _ _ _ => b
  | _ => []
def defArgs : Stmt → Arguments
  | .FunctionDef _ a _ _ _ _ _ _ _ _ => a
  | _ => ⟨[], [], none, [], [], none, []⟩
def inClass : Stmt → Nat → Stmt
  | .ClassDef _ _ _ b _ _ _ _ _ _ _, i => b.getD i st0
  | _, _ => st0
def ifA : Stmt → List Stmt
  | .If _ a _ _ => a
  | _ => []
def ifB : Stmt → List Stmt
  | .If _ _ b _ => b
  | _ => []
def loopB : Stmt → List Stmt
  | .For _ _ a _ _ => a
  | .While _ a _ _ => a
  | _ => []
def BN (d : DI) : Prop := ∀ (kV doc pm : Value) (an : Option Addr) (cdv ct : Value) (us : List Value), us.length = d.ps.length → bindArgs (PySem.W.fnOf d.x d.qual d.args d.body.py d.sc .none kV doc pm an cdv ct) ⟨us, []⟩ = pure (d.ps.zip us)
def KN (d : DI) (ks : List Str) (π : List Nat) : Prop := ∀ (kV doc pm : Value) (an : Option Addr) (cdv ct : Value) (ws : List Value), ws.length = ks.length → bindArgs (PySem.W.fnOf d.x d.qual d.args d.body.py d.sc .none kV doc pm an cdv ct) ⟨[], ks.zip ws⟩ = pure (d.ps.zip (perm π ws))
def P (l a b : Nat) : Pos := ⟨l, a, l, b⟩
def topS (i : Nat) : Stmt := PySem.Challenge.pw_oneshelf_k41_whole_melting_or_parted.main.body.getD i (.Pass ⟨0, 0, 0, 0⟩)
/-- is_integer -/
def t0_0 : T :=
   (.ret (.bop .And (.isi (.var 0 "value" (P 3 22 27)) .int (P 3 11 21) (P 3 29 32) (P 3 11 33)) (.cons (.una .Not (.isi (.var 0 "value" (P 3 54 59)) .bool (P 3 43 53) (P 3 61 65) (P 3 43 66)) (P 3 39 66)) .nil) (P 3 11 67)) (P 3 4 67))
def b0 : Ts :=
   (.cons t0_0 .nil)
def d0 : DI := ⟨"is_integer", "is_integer", none, true, ["value"], ["value"], defArgs (topS 1), ⟨.function, [("value", .local), ("isinstance", .globalImplicit), ("int", .globalImplicit), ("bool", .globalImplicit)], false, false, []⟩, b0⟩
/-- is_list -/
def t1_0 : T :=
   (.ret (.isiT (.var 0 "value" (P 5 22 27)) [(.list, (P 5 30 34)), (.tuple, (P 5 36 41))] 0 (P 5 11 21) (P 5 29 42) (P 5 11 43)) (P 5 4 43))
def b1 : Ts :=
   (.cons t1_0 .nil)
def d1 : DI := ⟨"is_list", "is_list", none, true, ["value"], ["value"], defArgs (topS 2), ⟨.function, [("value", .local), ("isinstance", .globalImplicit), ("list", .globalImplicit), ("tuple", .globalImplicit)], false, false, []⟩, b1⟩
/-- is_below -/
def t2_0 : T :=
   (.ret (.bop .And (.call 0 "is_integer" (P 25 11 21) (.share 0 "value" (P 25 22 27) .nil) (P 25 11 28)) (.cons (.cmp2 (.con (.int 0) 0 (P 25 33 34)) .LtE (.var 0 "value" (P 25 38 43)) .Lt (.var 1 "limit" (P 25 46 51)) (P 25 33 51)) .nil) (P 25 11 51)) (P 25 4 51))
def b2 : Ts :=
   (.cons t2_0 .nil)
def d2 : DI := ⟨"is_below", "is_below", none, true, ["value", "limit"], ["value", "limit"], defArgs (topS 11), ⟨.function, [("value", .local), ("limit", .local), ("is_integer", .globalImplicit)], false, false, []⟩, b2⟩
/-- Table.__init__ -/
def u3_0 : T :=
   (.bad ((ifA ((defBody (inClass (topS 12) 0)).getD 0 (.Pass ⟨0, 0, 0, 0⟩))).getD 0 (.Pass ⟨0, 0, 0, 0⟩)))
def s3_0 : Ts :=
   (.cons u3_0 .nil)
def t3_0 : T :=
   (.iff (.bop .Or (.una .Not (.call 1 "is_list" (P 29 15 22) (.share 1 "rows" (P 29 23 27) .nil) (P 29 15 28)) (P 29 11 28)) (.cons (.una .Not (.cmp2 (.con (.int 1) 0 (P 29 36 37)) .LtE (.bi1 .len (P 29 41 44) (.var 1 "rows" (P 29 45 49)) (P 29 41 50)) .LtE (.glo 0 "MOST_VALUES" (P 29 54 65)) (P 29 36 65)) (P 29 32 65)) .nil) (P 29 11 65)) s3_0 .nil ⟨29, 8, 30, 36⟩)
def c3_0 : E :=
   (.comp (.call 2 "is_below" (P 32 70 78) (.share 4 "value" (P 32 79 84) (.val (.bi1 .len (P 32 86 89) (.var 1 "rows" (P 32 90 94)) (P 32 86 95)) .nil)) (P 32 70 96)) (.nm 4 "value" (P 32 101 106)) (.e (.var 3 "row" (P 32 110 113))) .nil ⟨.function, [(".0", .local), ("value", .local), ("is_below", .globalImplicit), ("len", .globalImplicit), ("rows", .free)], false, false, []⟩ [("value", 4)] (P 32 69 114))
def u3_1 : T :=
   (.bad ((ifA ((loopB ((defBody (inClass (topS 12) 0)).getD 1 (.Pass ⟨0, 0, 0, 0⟩))).getD 0 (.Pass ⟨0, 0, 0, 0⟩))).getD 0 (.Pass ⟨0, 0, 0, 0⟩)))
def s3_1 : Ts :=
   (.cons u3_1 .nil)
def u3_2 : T :=
   (.iff (.bop .Or (.una .Not (.call 1 "is_list" (P 32 19 26) (.share 3 "row" (P 32 27 30) .nil) (P 32 19 31)) (P 32 15 31)) (.cons (.cmp (.bi1 .len (P 32 35 38) (.var 3 "row" (P 32 39 42)) (P 32 35 43)) .NotEq (.bi1 .len (P 32 47 50) (.var 1 "rows" (P 32 51 55)) (P 32 47 56)) (P 32 35 56)) (.cons (.una .Not (.bi1 .all (P 32 65 68) c3_0 (P 32 65 115)) (P 32 61 115)) .nil)) (P 32 15 116)) s3_1 .nil ⟨32, 12, 33, 44⟩)
def s3_2 : Ts :=
   (.cons u3_2 .nil)
def t3_1 : T :=
   (.for (.tp (.cons (.nm 2 "position" (P 31 12 20)) (.cons (.nm 3 "row" (P 31 22 25)) .nil)) 0 (P 31 12 25)) (.enu (.var 1 "rows" (P 31 39 43)) (P 31 29 38) (P 31 29 44)) s3_2 ⟨31, 8, 33, 44⟩)
def c3_1 : E :=
   (.comp (.conv .tuple (P 34 31 36) (.var 3 "row" (P 34 37 40)) (P 34 31 41)) (.nm 3 "row" (P 34 46 49)) (.e (.var 1 "rows" (P 34 53 57))) .nil ⟨.function, [(".0", .local), ("row", .local), ("tuple", .globalImplicit)], false, false, []⟩ [("row", 3)] (P 34 30 58))
def t3_2 : T :=
   (.setF ⟨0, "self", (P 34 8 12)⟩ 0 "own_rows" (P 34 8 21) (.conv .tuple (P 34 24 29) c3_1 (P 34 24 59)) (P 34 8 59))
def b3 : Ts :=
   (.cons t3_0 (.cons t3_1 (.cons t3_2 .nil)))
def d3 : DI := ⟨"__init__", "Table.__init__", (some "Table"), false, ["self", "rows"], ["self", "rows", "position", "row", "value"], defArgs (inClass (topS 12) 0), ⟨.function, [("self", .local), ("rows", .cell), ("position", .local), ("row", .local), ("is_list", .globalImplicit), ("len", .globalImplicit), ("MOST_VALUES", .globalImplicit), ("InvalidTable", .globalImplicit), ("enumerate", .globalImplicit), ("all", .globalImplicit), ("tuple", .globalImplicit)], false, false, [("fast", .str "self"), ("fast", .str "rows"), ("fast", .str "position"), ("fast", .str "row"), ("fast", .str "value")]⟩, b3⟩
/-- Table.rows -/
def c4_0 : E :=
   (.comp (.conv .list (P 37 16 20) (.var 1 "row" (P 37 21 24)) (P 37 16 25)) (.nm 1 "row" (P 37 30 33)) (.e (.att (.var 0 "self" (P 37 37 41)) 0 "own_rows" (P 37 37 50))) .nil ⟨.function, [(".0", .local), ("row", .local), ("list", .globalImplicit)], false, false, []⟩ [("row", 1)] (P 37 15 51))
def t4_0 : T :=
   (.ret c4_0 (P 37 8 51))
def b4 : Ts :=
   (.cons t4_0 .nil)
def d4 : DI := ⟨"rows", "Table.rows", (some "Table"), false, ["self"], ["self", "row"], defArgs (inClass (topS 12) 1), ⟨.function, [("self", .local)], false, false, [("fast", .str "self"), ("fast", .str "row")]⟩, b4⟩
/-- Table.at -/
def t5_0 : T :=
   (.exp (.call 10 "want_value" (P 40 8 18) (.share 0 "self" (P 40 19 23) (.share 1 "x" (P 40 25 26) .nil)) (P 40 8 27)) (P 40 8 27))
def t5_1 : T :=
   (.exp (.call 10 "want_value" (P 41 8 18) (.share 0 "self" (P 41 19 23) (.share 2 "y" (P 41 25 26) .nil)) (P 41 8 27)) (P 41 8 27))
def t5_2 : T :=
   (.ret (.sub (.sub (.att (.var 0 "self" (P 42 15 19)) 0 "own_rows" (P 42 15 28)) (.var 1 "x" (P 42 29 30)) (P 42 15 31)) (.var 2 "y" (P 42 32 33)) (P 42 15 34)) (P 42 8 34))
def b5 : Ts :=
   (.cons t5_0 (.cons t5_1 (.cons t5_2 .nil)))
def d5 : DI := ⟨"at", "Table.at", (some "Table"), false, ["self", "x", "y"], ["self", "x", "y"], defArgs (inClass (topS 12) 2), ⟨.function, [("self", .local), ("x", .local), ("y", .local), ("want_value", .globalImplicit)], false, false, []⟩, b5⟩
/-- Table.__len__ -/
def t6_0 : T :=
   (.ret (.bi1 .len (P 45 15 18) (.att (.var 0 "self" (P 45 19 23)) 0 "own_rows" (P 45 19 32)) (P 45 15 33)) (P 45 8 33))
def b6 : Ts :=
   (.cons t6_0 .nil)
def d6 : DI := ⟨"__len__", "Table.__len__", (some "Table"), false, ["self"], ["self"], defArgs (inClass (topS 12) 3), ⟨.function, [("self", .local), ("len", .globalImplicit)], false, false, []⟩, b6⟩
/-- Table.__eq__ -/
def t7_0 : T :=
   (.ret (.bop .And (.isiC (.var 1 "other" (P 48 26 31)) 0 "Table" (P 48 15 25) (P 48 33 38) (P 48 15 39)) (.cons (.cmp (.att (.var 0 "self" (P 48 44 48)) 0 "own_rows" (P 48 44 57)) .Eq (.att (.var 1 "other" (P 48 61 66)) 0 "own_rows" (P 48 61 75)) (P 48 44 75)) .nil) (P 48 15 75)) (P 48 8 75))
def b7 : Ts :=
   (.cons t7_0 .nil)
def d7 : DI := ⟨"__eq__", "Table.__eq__", (some "Table"), false, ["self", "other"], ["self", "other"], defArgs (inClass (topS 12) 4), ⟨.function, [("self", .local), ("other", .local), ("isinstance", .globalImplicit), ("Table", .globalImplicit)], false, false, []⟩, b7⟩
/-- Table.__repr__ -/
def t8_0 : T :=
   (.bad ((defBody (inClass (topS 12) 5)).getD 0 (.Pass ⟨0, 0, 0, 0⟩)))
def b8 : Ts :=
   (.cons t8_0 .nil)
def d8 : DI := ⟨"__repr__", "Table.__repr__", (some "Table"), false, ["self"], ["self"], defArgs (inClass (topS 12) 5), ⟨.function, [("self", .local)], false, false, []⟩, b8⟩
/-- is_value -/
def t9_0 : T :=
   (.ret (.call 2 "is_below" (P 53 11 19) (.share 1 "value" (P 53 20 25) (.val (.bi1 .len (P 53 27 30) (.att (.var 0 "table" (P 53 31 36)) 0 "own_rows" (P 53 31 45)) (P 53 27 46)) .nil)) (P 53 11 47)) (P 53 4 47))
def b9 : Ts :=
   (.cons t9_0 .nil)
def d9 : DI := ⟨"is_value", "is_value", none, true, ["table", "value"], ["table", "value"], defArgs (topS 13), ⟨.function, [("table", .local), ("value", .local), ("is_below", .globalImplicit), ("len", .globalImplicit)], false, false, []⟩, b9⟩
/-- want_value -/
def u10_0 : T :=
   (.bad ((ifA ((defBody (topS 14)).getD 0 (.Pass ⟨0, 0, 0, 0⟩))).getD 0 (.Pass ⟨0, 0, 0, 0⟩)))
def s10_0 : Ts :=
   (.cons u10_0 .nil)
def t10_0 : T :=
   (.iff (.una .Not (.call 9 "is_value" (P 55 11 19) (.share 0 "table" (P 55 20 25) (.share 1 "value" (P 55 27 32) .nil)) (P 55 11 33)) (P 55 7 33)) s10_0 .nil ⟨55, 4, 56, 33⟩)
def b10 : Ts :=
   (.cons t10_0 .nil)
def d10 : DI := ⟨"want_value", "want_value", none, true, ["table", "value"], ["table", "value"], defArgs (topS 14), ⟨.function, [("table", .local), ("value", .local), ("is_value", .globalImplicit), ("InvalidValue", .globalImplicit)], false, false, []⟩, b10⟩
/-- is_pair -/
def t11_0 : T :=
   (.ret (.bop .And (.isi (.var 0 "value" (P 58 22 27)) .tuple (P 58 11 21) (P 58 29 34) (P 58 11 35)) (.cons (.cmp (.bi1 .len (P 58 40 43) (.var 0 "value" (P 58 44 49)) (P 58 40 50)) .Eq (.con (.int 2) 0 (P 58 54 55)) (P 58 40 55)) .nil) (P 58 11 55)) (P 58 4 55))
def b11 : Ts :=
   (.cons t11_0 .nil)
def d11 : DI := ⟨"is_pair", "is_pair", none, true, ["value"], ["value"], defArgs (topS 15), ⟨.function, [("value", .local), ("isinstance", .globalImplicit), ("tuple", .globalImplicit), ("len", .globalImplicit)], false, false, []⟩, b11⟩
/-- leaves_of -/
def t12_0 : T :=
   (.par [⟨1, "found", (P 60 4 9)⟩, ⟨2, "waiting", (P 60 11 18)⟩] 0 (P 60 4 18) [(.o (.lst .nil (P 60 22 24))), (.o (.lst (.cons (.var 0 "value" (P 60 27 32)) .nil) (P 60 26 33)))] 0 (P 60 21 34) (P 60 4 34))
def c12_0 : E :=
   (.cmp (.bv 2 "waiting" (P 61 10 17)) .NotEq (.lst .nil (P 61 21 23)) (P 61 10 23))
def u12_0 : T :=
   (.set ⟨3, "part", (P 62 8 12)⟩ (.v (.mth0 .pop 2 "waiting" (P 62 15 22) (P 62 15 26) (P 62 15 28))) (P 62 8 28))
def u12_1 : T :=
   (.exp (.mth1 .extend 2 "waiting" (P 64 12 19) (P 64 12 26) (.var 3 "part" (P 64 27 31)) (P 64 12 32)) (P 64 12 32))
def s12_0 : Ts :=
   (.cons u12_1 .nil)
def u12_2 : T :=
   (.exp (.mth1 .append 1 "found" (P 66 12 17) (P 66 12 24) (.var 3 "part" (P 66 25 29)) (P 66 12 30)) (P 66 12 30))
def s12_1 : Ts :=
   (.cons u12_2 .nil)
def u12_3 : T :=
   (.iff (.call 11 "is_pair" (P 63 11 18) (.share 3 "part" (P 63 19 23) .nil) (P 63 11 24)) s12_0 s12_1 ⟨63, 8, 66, 30⟩)
def u12_4 : T :=
   (.ret (.con .none 0 (P 68 19 23)) (P 68 12 23))
def s12_2 : Ts :=
   (.cons u12_4 .nil)
def u12_5 : T :=
   (.iff (.cmp (.bin (.bi1 .len (P 67 11 14) (.bv 1 "found" (P 67 15 20)) (P 67 11 21)) .Add (.bi1 .len (P 67 24 27) (.bv 2 "waiting" (P 67 28 35)) (P 67 24 36)) (P 67 11 36)) .Gt (.glo 1 "MOST_IN_MELT" (P 67 39 51)) (P 67 11 51)) s12_2 .nil ⟨67, 8, 68, 23⟩)
def s12_3 : Ts :=
   (.cons u12_0 (.cons u12_3 (.cons u12_5 .nil)))
def t12_1 : T :=
   (.whl c12_0 s12_3 ⟨61, 4, 68, 23⟩)
def t12_2 : T :=
   (.ret (.var 1 "found" (P 69 11 16)) (P 69 4 16))
def b12 : Ts :=
   (.cons t12_0 (.cons t12_1 (.cons t12_2 .nil)))
def d12 : DI := ⟨"leaves_of", "leaves_of", none, true, ["value"], ["value", "found", "waiting", "part"], defArgs (topS 16), ⟨.function, [("value", .local), ("found", .local), ("waiting", .local), ("part", .local), ("is_pair", .globalImplicit), ("len", .globalImplicit), ("MOST_IN_MELT", .globalImplicit)], false, false, []⟩, b12⟩
/-- is_melt -/
def t13_0 : T :=
   (.set ⟨2, "leaves", (P 71 4 10)⟩ (.v (.call 12 "leaves_of" (P 71 13 22) (.share 1 "value" (P 71 23 28) .nil) (P 71 13 29))) (P 71 4 29))
def c13_0 : E :=
   (.comp (.call 9 "is_value" (P 72 39 47) (.share 0 "table" (P 72 48 53) (.share 3 "leaf" (P 72 55 59) .nil)) (P 72 39 60)) (.nm 3 "leaf" (P 72 65 69)) (.e (.var 2 "leaves" (P 72 73 79))) .nil ⟨.function, [(".0", .local), ("leaf", .local), ("is_value", .globalImplicit), ("table", .free)], false, false, []⟩ [("leaf", 3)] (P 72 38 80))
def t13_1 : T :=
   (.ret (.bop .And (.cmp (.var 2 "leaves" (P 72 11 17)) .IsNot (.con .none 0 (P 72 25 29)) (P 72 11 29)) (.cons (.bi1 .all (P 72 34 37) c13_0 (P 72 34 81)) .nil) (P 72 11 81)) (P 72 4 81))
def b13 : Ts :=
   (.cons t13_0 (.cons t13_1 .nil))
def d13 : DI := ⟨"is_melt", "is_melt", none, true, ["table", "value"], ["table", "value", "leaves", "leaf"], defArgs (topS 17), ⟨.function, [("table", .cell), ("value", .local), ("leaves", .local), ("leaves_of", .globalImplicit), ("all", .globalImplicit)], false, false, [("fast", .str "table"), ("fast", .str "value"), ("fast", .str "leaves"), ("fast", .str "leaf")]⟩, b13⟩
/-- result_of -/
def u14_0 : T :=
   (.ret (.sub (.sub (.att (.var 0 "table" (P 75 15 20)) 0 "own_rows" (P 75 15 29)) (.call 14 "result_of" (P 75 30 39) (.share 0 "table" (P 75 40 45) (.val (.sub (.var 1 "melt" (P 75 47 51)) (.con (.int 0) 0 (P 75 52 53)) (P 75 47 54)) .nil)) (P 75 30 55)) (P 75 15 56)) (.call 14 "result_of" (P 75 57 66) (.share 0 "table" (P 75 67 72) (.val (.sub (.var 1 "melt" (P 75 74 78)) (.con (.int 1) 0 (P 75 79 80)) (P 75 74 81)) .nil)) (P 75 57 82)) (P 75 15 83)) (P 75 8 83))
def s14_0 : Ts :=
   (.cons u14_0 .nil)
def t14_0 : T :=
   (.iff (.call 11 "is_pair" (P 74 7 14) (.share 1 "melt" (P 74 15 19) .nil) (P 74 7 20)) s14_0 .nil ⟨74, 4, 75, 83⟩)
def t14_1 : T :=
   (.ret (.var 1 "melt" (P 76 11 15)) (P 76 4 15))
def b14 : Ts :=
   (.cons t14_0 (.cons t14_1 .nil))
def d14 : DI := ⟨"result_of", "result_of", none, true, ["table", "melt"], ["table", "melt"], defArgs (topS 18), ⟨.function, [("table", .local), ("melt", .local), ("is_pair", .globalImplicit), ("result_of", .globalImplicit)], false, false, []⟩, b14⟩
/-- result -/
def u15_0 : T :=
   (.bad ((ifA ((defBody (topS 19)).getD 0 (.Pass ⟨0, 0, 0, 0⟩))).getD 0 (.Pass ⟨0, 0, 0, 0⟩)))
def s15_0 : Ts :=
   (.cons u15_0 .nil)
def t15_0 : T :=
   (.iff (.una .Not (.call 13 "is_melt" (P 78 11 18) (.share 0 "table" (P 78 19 24) (.share 1 "melt" (P 78 26 30) .nil)) (P 78 11 31)) (P 78 7 31)) s15_0 .nil ⟨78, 4, 79, 31⟩)
def t15_1 : T :=
   (.ret (.call 14 "result_of" (P 80 11 20) (.share 0 "table" (P 80 21 26) (.share 1 "melt" (P 80 28 32) .nil)) (P 80 11 33)) (P 80 4 33))
def b15 : Ts :=
   (.cons t15_0 (.cons t15_1 .nil))
def d15 : DI := ⟨"result", "result", none, true, ["table", "melt"], ["table", "melt"], defArgs (topS 19), ⟨.function, [("table", .local), ("melt", .local), ("is_melt", .globalImplicit), ("InvalidMelt", .globalImplicit), ("result_of", .globalImplicit)], false, false, []⟩, b15⟩
/-- known_pairs -/
def t16_0 : T :=
   (.set ⟨1, "values", (P 82 4 10)⟩ (.v (.lrng (P 82 13 17) (P 82 18 23) (.var 0 "size" (P 82 24 28)) (P 82 18 29) (P 82 13 30))) (P 82 4 30))
def c16_0 : E :=
   (.comp (.tup (.cons (.tup (.cons (.var 3 "x" (P 83 15 16)) (.cons (.var 3 "x" (P 83 18 19)) .nil)) 0 (P 83 14 20)) (.cons (.var 3 "x" (P 83 22 23)) .nil)) 0 (P 83 13 24)) (.nm 3 "x" (P 83 29 30)) (.e (.var 1 "values" (P 83 34 40))) .nil ⟨.function, [(".0", .local), ("x", .local)], false, false, []⟩ [("x", 3)] (P 83 12 41))
def c16_1 : E :=
   (.compN (.tup (.cons (.tup (.cons (.var 3 "x" (P 83 47 48)) (.cons (.var 4 "y" (P 83 50 51)) .nil)) 0 (P 83 46 52)) (.cons (.tup (.cons (.var 4 "y" (P 83 55 56)) (.cons (.var 3 "x" (P 83 58 59)) .nil)) 0 (P 83 54 60)) .nil)) 0 (P 83 45 61)) (.cons (.nm 3 "x" (P 83 66 67)) (.e (.var 1 "values" (P 83 71 77))) .nil (.cons (.nm 4 "y" (P 83 82 83)) (.e (.var 1 "values" (P 83 87 93))) .nil .nil)) ⟨.function, [(".0", .local), ("x", .local), ("y", .local), ("values", .free)], false, false, []⟩ [("x", 3), ("y", 4)] (P 83 44 94))
def t16_1 : T :=
   (.set ⟨2, "found", (P 83 4 9)⟩ (.v (.bin c16_0 .Add c16_1 (P 83 12 94))) (P 83 4 94))
def c16_2 : E :=
   (.compN (.tup (.cons (.tup (.cons (.tup (.cons (.var 3 "x" (P 84 23 24)) (.cons (.var 4 "y" (P 84 26 27)) .nil)) 0 (P 84 22 28)) (.cons (.var 5 "z" (P 84 30 31)) .nil)) 0 (P 84 21 32)) (.cons (.tup (.cons (.var 3 "x" (P 84 35 36)) (.cons (.tup (.cons (.var 4 "y" (P 84 39 40)) (.cons (.var 5 "z" (P 84 42 43)) .nil)) 0 (P 84 38 44)) .nil)) 0 (P 84 34 45)) .nil)) 0 (P 84 20 46)) (.cons (.nm 3 "x" (P 84 51 52)) (.e (.var 1 "values" (P 84 56 62))) .nil (.cons (.nm 4 "y" (P 84 67 68)) (.e (.var 1 "values" (P 84 72 78))) .nil (.cons (.nm 5 "z" (P 84 83 84)) (.e (.var 1 "values" (P 84 88 94))) .nil .nil))) ⟨.function, [(".0", .local), ("x", .local), ("y", .local), ("z", .local), ("values", .free)], false, false, []⟩ [("x", 3), ("y", 4), ("z", 5)] (P 84 19 95))
def t16_2 : T :=
   (.ret (.bin (.var 2 "found" (P 84 11 16)) .Add c16_2 (P 84 11 95)) (P 84 4 95))
def b16 : Ts :=
   (.cons t16_0 (.cons t16_1 (.cons t16_2 .nil)))
def d16 : DI := ⟨"known_pairs", "known_pairs", none, true, ["size"], ["size", "values", "found", "x", "y", "z"], defArgs (topS 20), ⟨.function, [("size", .local), ("values", .cell), ("found", .local), ("list", .globalImplicit), ("range", .globalImplicit)], false, false, [("fast", .str "size"), ("fast", .str "values"), ("fast", .str "x"), ("fast", .str "y"), ("fast", .str "found"), ("fast", .str "z")]⟩, b16⟩
/-- parting -/
def u17_0 : T :=
   (.ret (.tup (.cons (.var 1 "one" (P 88 20 23)) (.cons (.var 2 "other" (P 88 25 30)) .nil)) 0 (P 88 19 31)) (P 88 12 31))
def s17_0 : Ts :=
   (.cons u17_0 .nil)
def u17_1 : T :=
   (.iff (.cmp (.call 14 "result_of" (P 87 11 20) (.share 0 "table" (P 87 21 26) (.share 1 "one" (P 87 28 31) .nil)) (P 87 11 32)) .NotEq (.call 14 "result_of" (P 87 36 45) (.share 0 "table" (P 87 46 51) (.share 2 "other" (P 87 53 58) .nil)) (P 87 36 59)) (P 87 11 59)) s17_0 .nil ⟨87, 8, 88, 31⟩)
def s17_1 : Ts :=
   (.cons u17_1 .nil)
def t17_0 : T :=
   (.for (.tp (.cons (.nm 1 "one" (P 86 8 11)) (.cons (.nm 2 "other" (P 86 13 18)) .nil)) 0 (P 86 8 18)) (.e (.call 16 "known_pairs" (P 86 22 33) (.val (.lenO 0 6 (P 86 34 37) (.var 0 "table" (P 86 38 43)) (P 86 34 44)) .nil) (P 86 22 45))) s17_1 ⟨86, 4, 88, 31⟩)
def t17_1 : T :=
   (.ret (.con .none 0 (P 89 11 15)) (P 89 4 15))
def b17 : Ts :=
   (.cons t17_0 (.cons t17_1 .nil))
def d17 : DI := ⟨"parting", "parting", none, true, ["table"], ["table", "one", "other"], defArgs (topS 21), ⟨.function, [("table", .local), ("one", .local), ("other", .local), ("known_pairs", .globalImplicit), ("len", .globalImplicit), ("result_of", .globalImplicit)], false, false, []⟩, b17⟩
/-- do_melt -/
def t18_0 : T :=
   (.ret (.cmp (.call 17 "parting" (P 91 11 18) (.share 0 "table" (P 91 19 24) .nil) (P 91 11 25)) .Is (.con .none 0 (P 91 29 33)) (P 91 11 33)) (P 91 4 33))
def b18 : Ts :=
   (.cons t18_0 .nil)
def d18 : DI := ⟨"do_melt", "do_melt", none, true, ["table"], ["table"], defArgs (topS 22), ⟨.function, [("table", .local), ("parting", .globalImplicit)], false, false, []⟩, b18⟩
/-- melts -/
def t19_0 : T :=
   (.ret (.call 18 "do_melt" (P 93 11 18) (.share 0 "table" (P 93 19 24) .nil) (P 93 11 25)) (P 93 4 25))
def b19 : Ts :=
   (.cons t19_0 .nil)
def d19 : DI := ⟨"melts", "melts", none, true, ["table"], ["table"], defArgs (topS 23), ⟨.function, [("table", .local), ("do_melt", .globalImplicit)], false, false, []⟩, b19⟩
/-- is_parting -/
def u20_0 : T :=
   (.ret (.con (.bool false) 0 (P 96 15 20)) (P 96 8 20))
def s20_0 : Ts :=
   (.cons u20_0 .nil)
def t20_0 : T :=
   (.iff (.bop .Or (.una .Not (.call 11 "is_pair" (P 95 11 18) (.share 1 "value" (P 95 19 24) .nil) (P 95 11 25)) (P 95 7 25)) (.cons (.una .Not (.call 13 "is_melt" (P 95 33 40) (.share 0 "table" (P 95 41 46) (.val (.sub (.var 1 "value" (P 95 48 53)) (.con (.int 0) 0 (P 95 54 55)) (P 95 48 56)) .nil)) (P 95 33 57)) (P 95 29 57)) (.cons (.una .Not (.call 13 "is_melt" (P 95 66 73) (.share 0 "table" (P 95 74 79) (.val (.sub (.var 1 "value" (P 95 81 86)) (.con (.int 1) 0 (P 95 87 88)) (P 95 81 89)) .nil)) (P 95 66 90)) (P 95 62 90)) .nil)) (P 95 7 91)) s20_0 .nil ⟨95, 4, 96, 20⟩)
def u20_1 : T :=
   (.ret (.con (.bool false) 0 (P 98 15 20)) (P 98 8 20))
def s20_1 : Ts :=
   (.cons u20_1 .nil)
def t20_1 : T :=
   (.iff (.sne (P 97 7 10) (.call 12 "leaves_of" (P 97 11 20) (.val (.sub (.var 1 "value" (P 97 21 26)) (.con (.int 0) 0 (P 97 27 28)) (P 97 21 29)) .nil) (P 97 11 30)) (P 97 7 31) (P 97 35 38) (.call 12 "leaves_of" (P 97 39 48) (.val (.sub (.var 1 "value" (P 97 49 54)) (.con (.int 1) 0 (P 97 55 56)) (P 97 49 57)) .nil) (P 97 39 58)) (P 97 35 59) (P 97 7 59)) s20_1 .nil ⟨97, 4, 98, 20⟩)
def t20_2 : T :=
   (.ret (.cmp (.call 14 "result_of" (P 99 11 20) (.share 0 "table" (P 99 21 26) (.val (.sub (.var 1 "value" (P 99 28 33)) (.con (.int 0) 0 (P 99 34 35)) (P 99 28 36)) .nil)) (P 99 11 37)) .NotEq (.call 14 "result_of" (P 99 41 50) (.share 0 "table" (P 99 51 56) (.val (.sub (.var 1 "value" (P 99 58 63)) (.con (.int 1) 0 (P 99 64 65)) (P 99 58 66)) .nil)) (P 99 41 67)) (P 99 11 67)) (P 99 4 67))
def b20 : Ts :=
   (.cons t20_0 (.cons t20_1 (.cons t20_2 .nil)))
def d20 : DI := ⟨"is_parting", "is_parting", none, true, ["table", "value"], ["table", "value"], defArgs (topS 24), ⟨.function, [("table", .local), ("value", .local), ("is_pair", .globalImplicit), ("is_melt", .globalImplicit), ("set", .globalImplicit), ("leaves_of", .globalImplicit), ("result_of", .globalImplicit)], false, false, []⟩, b20⟩
/-- _law_pot -/
def t21_0 : T :=
   (.set ⟨2, "_law_cell", (P 102 4 13)⟩ (.v (.bin (.bin (.con (.int 167) 0 (P 102 16 19)) .Mult (.var 1 "_law_k" (P 102 22 28)) (P 102 16 28)) .Add (.con (.int 73) 0 (P 102 31 33)) (P 102 16 33))) (P 102 4 33))
def u21_0 : T :=
   (.set ⟨2, "_law_cell", (P 104 8 17)⟩ (.v (.bi1 .abs (P 104 20 23) (.sub (.var 0 "_law_script" (P 104 24 35)) (.var 1 "_law_k" (P 104 36 42)) (P 104 24 43)) (P 104 20 44))) (P 104 8 44))
def s21_0 : Ts :=
   (.cons u21_0 .nil)
def t21_1 : T :=
   (.iff (.cmp (.var 1 "_law_k" (P 103 7 13)) .Lt (.bi1 .len (P 103 16 19) (.var 0 "_law_script" (P 103 20 31)) (P 103 16 32)) (P 103 7 32)) s21_0 .nil ⟨103, 4, 104, 44⟩)
def t21_2 : T :=
   (.retO (.o (.lst (.cons (.bi2 .max2 (P 105 12 15) (.con (.int 0) 0 (P 105 16 17)) (.bin (.var 2 "_law_cell" (P 105 19 28)) .Sub (.bin (.con (.int 10) 0 (P 105 31 33)) .Pow (.con (.int 18) 0 (P 105 37 39)) (P 105 31 39)) (P 105 19 39)) (P 105 12 40)) (.cons (.bin (.bin (.bi1 .int (P 105 42 45) (.bin (.bin (.bin (.bin (.bi1 .int (P 105 46 49) (.var 2 "_law_cell" (P 105 50 59)) (P 105 46 60)) .Mod (.con (.int 2147483549) 0 (P 105 63 73)) (P 105 46 73)) .Mult (.con (.int 48271) 0 (P 105 76 81)) (P 105 46 81)) .Add (.bin (.con (.int 9521) 0 (P 105 84 88)) .Mult (.var 1 "_law_k" (P 105 91 97)) (P 105 84 97)) (P 105 46 97)) .Add (.con (.int 43) 0 (P 105 100 102)) (P 105 46 102)) (P 105 42 103)) .Mod (.con (.int 2147483497) 0 (P 105 106 116)) (P 105 42 116)) .Add (.con (.int 1) 0 (P 105 119 120)) (P 105 42 120)) .nil)) (P 105 11 121))) (P 105 4 121))
def b21 : Ts :=
   (.cons t21_0 (.cons t21_1 (.cons t21_2 .nil)))
def d21 : DI := ⟨"_law_pot", "_law_pot", none, true, ["_law_script", "_law_k"], ["_law_script", "_law_k", "_law_cell"], defArgs (topS 26), ⟨.function, [("_law_script", .local), ("_law_k", .local), ("_law_cell", .local), ("len", .globalImplicit), ("abs", .globalImplicit), ("max", .globalImplicit), ("int", .globalImplicit)], false, false, []⟩, b21⟩
/-- _law_draw -/
def u22_0 : T :=
   (.subnm ⟨0, "_law_pot_here", (P 108 8 21)⟩ 0 0 (P 108 22 23) (P 108 8 24) ⟨2, "_law_digit", (P 108 26 36)⟩ 0 (P 108 8 36) (.bi2 .divmod (P 108 39 45) (.sub (.bv 0 "_law_pot_here" (P 108 46 59)) (.con (.int 0) 0 (P 108 60 61)) (P 108 46 62)) (.var 1 "_law_many" (P 108 64 73)) (P 108 39 74)) (P 108 8 74))
def u22_1 : T :=
   (.ret (.var 2 "_law_digit" (P 109 15 25)) (P 109 8 25))
def s22_0 : Ts :=
   (.cons u22_0 (.cons u22_1 .nil))
def t22_0 : T :=
   (.iff (.cmp (.sub (.bv 0 "_law_pot_here" (P 107 7 20)) (.con (.int 0) 0 (P 107 21 22)) (P 107 7 23)) .Gt (.con (.int 0) 0 (P 107 26 27)) (P 107 7 27)) s22_0 .nil ⟨107, 4, 109, 25⟩)
def t22_1 : T :=
   (.setI ⟨0, "_law_pot_here", (P 110 4 17)⟩ (.con (.int 1) 0 (P 110 18 19)) (P 110 4 20) (.bin (.bi1 .int (P 110 23 26) (.bin (.bin (.sub (.bv 0 "_law_pot_here" (P 110 27 40)) (.con (.int 1) 0 (P 110 41 42)) (P 110 27 43)) .Mult (.con (.int 48271) 0 (P 110 46 51)) (P 110 27 51)) .Add (.con (.int 20011) 0 (P 110 54 59)) (P 110 27 59)) (P 110 23 60)) .Mod (.con (.int 2147483497) 0 (P 110 63 73)) (P 110 23 73)) (P 110 4 73))
def t22_2 : T :=
   (.ret (.bin (.bi1 .int (P 111 11 14) (.bin (.bin (.bi1 .int (P 111 15 18) (.bin (.sub (.bv 0 "_law_pot_here" (P 111 19 32)) (.con (.int 1) 0 (P 111 33 34)) (P 111 19 35)) .Mult (.sub (.bv 0 "_law_pot_here" (P 111 38 51)) (.con (.int 1) 0 (P 111 52 53)) (P 111 38 54)) (P 111 19 54)) (P 111 15 55)) .Mod (.con (.int 2147483549) 0 (P 111 58 68)) (P 111 15 68)) .FloorDiv (.con (.int 19) 0 (P 111 72 74)) (P 111 15 74)) (P 111 11 75)) .Mod (.var 1 "_law_many" (P 111 78 87)) (P 111 11 87)) (P 111 4 87))
def b22 : Ts :=
   (.cons t22_0 (.cons t22_1 (.cons t22_2 .nil)))
def d22 : DI := ⟨"_law_draw", "_law_draw", none, true, ["_law_pot_here", "_law_many"], ["_law_pot_here", "_law_many", "_law_digit"], defArgs (topS 27), ⟨.function, [("_law_pot_here", .local), ("_law_many", .local), ("_law_digit", .local), ("divmod", .globalImplicit), ("int", .globalImplicit)], false, false, []⟩, b22⟩
/-- _law_pick -/
def t23_0 : T :=
   (.ret (.sub (.var 1 "_law_some" (P 113 11 20)) (.call 22 "_law_draw" (P 113 21 30) (.share 0 "_law_pot_here" (P 113 31 44) (.val (.bi1 .len (P 113 46 49) (.var 1 "_law_some" (P 113 50 59)) (P 113 46 60)) .nil)) (P 113 21 61)) (P 113 11 62)) (P 113 4 62))
def b23 : Ts :=
   (.cons t23_0 .nil)
def d23 : DI := ⟨"_law_pick", "_law_pick", none, true, ["_law_pot_here", "_law_some"], ["_law_pot_here", "_law_some"], defArgs (topS 28), ⟨.function, [("_law_pot_here", .local), ("_law_some", .local), ("_law_draw", .globalImplicit), ("len", .globalImplicit)], false, false, []⟩, b23⟩
/-- _law_mixed -/
def t24_0 : T :=
   (.par [⟨2, "_law_left", (P 115 4 13)⟩, ⟨3, "_law_found", (P 115 15 25)⟩] 0 (P 115 4 25) [(.o (.conv .list (P 115 29 33) (.var 1 "_law_some" (P 115 34 43)) (P 115 29 44))), (.o (.lst .nil (P 115 46 48)))] 0 (P 115 28 49) (P 115 4 49))
def c24_0 : E :=
   (.cmp (.bv 2 "_law_left" (P 116 10 19)) .NotEq (.lst .nil (P 116 23 25)) (P 116 10 25))
def u24_0 : T :=
   (.exp (.mth1 .append 3 "_law_found" (P 117 8 18) (P 117 8 25) (.mth1 .pop 2 "_law_left" (P 117 26 35) (P 117 26 39) (.call 22 "_law_draw" (P 117 40 49) (.share 0 "_law_pot_here" (P 117 50 63) (.val (.bi1 .len (P 117 65 68) (.bv 2 "_law_left" (P 117 69 78)) (P 117 65 79)) .nil)) (P 117 40 80)) (P 117 26 81)) (P 117 8 82)) (P 117 8 82))
def s24_0 : Ts :=
   (.cons u24_0 .nil)
def t24_1 : T :=
   (.whl c24_0 s24_0 ⟨116, 4, 117, 82⟩)
def t24_2 : T :=
   (.ret (.var 3 "_law_found" (P 118 11 21)) (P 118 4 21))
def b24 : Ts :=
   (.cons t24_0 (.cons t24_1 (.cons t24_2 .nil)))
def d24 : DI := ⟨"_law_mixed", "_law_mixed", none, true, ["_law_pot_here", "_law_some"], ["_law_pot_here", "_law_some", "_law_left", "_law_found"], defArgs (topS 29), ⟨.function, [("_law_pot_here", .local), ("_law_some", .local), ("_law_left", .local), ("_law_found", .local), ("list", .globalImplicit), ("_law_draw", .globalImplicit), ("len", .globalImplicit)], false, false, []⟩, b24⟩
/-- _law_lots -/
def t25_0 : T :=
   (.set ⟨1, "_law_found", (P 120 4 14)⟩ (.v (.lst .nil (P 120 17 19))) (P 120 4 19))
def c25_0 : E :=
   (.comp (.call 22 "_law_draw" (P 122 33 42) (.share 0 "_law_pot_here" (P 122 43 56) (.val (.con (.int 4) 0 (P 122 58 59)) .nil)) (P 122 33 60)) (.nm 3 "_law_more" (P 122 65 74)) (.rng (.call 22 "_law_draw" (P 122 84 93) (.share 0 "_law_pot_here" (P 122 94 107) (.val (.con (.int 4) 0 (P 122 109 110)) .nil)) (P 122 84 111)) (P 122 78 83) (P 122 78 112)) .nil ⟨.function, [(".0", .local), ("_law_more", .local), ("_law_draw", .globalImplicit), ("_law_pot_here", .free)], false, false, []⟩ [("_law_more", 3)] (P 122 32 113))
def u25_0 : T :=
   (.set ⟨4, "_law_fresh", (P 122 8 18)⟩ (.v (.ss (P 122 21 27) (P 122 28 31) c25_0 (P 122 28 114) (P 122 21 115))) (P 122 8 115))
def c25_1 : E :=
   (.comp (.ss (P 123 36 42) (P 123 43 46) (.bin (.var 6 "_law_one" (P 123 47 55)) .Add (.var 4 "_law_fresh" (P 123 58 68)) (P 123 47 68)) (P 123 43 69) (P 123 36 70)) (.nm 6 "_law_one" (P 123 75 83)) (.e (.var 1 "_law_found" (P 123 87 97))) .nil ⟨.function, [(".0", .local), ("_law_one", .local), ("sorted", .globalImplicit), ("set", .globalImplicit), ("_law_fresh", .free)], false, false, []⟩ [("_law_one", 6)] (P 123 35 98))
def u25_1 : T :=
   (.set ⟨3, "_law_more", (P 123 8 17)⟩ (.v (.bin (.lst (.cons (.var 4 "_law_fresh" (P 123 21 31)) .nil) (P 123 20 32)) .Add c25_1 (P 123 20 98))) (P 123 8 98))
def c25_2 : E :=
   (.comp (.var 6 "_law_one" (P 124 34 42)) (.tp (.cons (.nm 7 "_law_at" (P 124 47 54)) (.cons (.nm 6 "_law_one" (P 124 56 64)) .nil)) 0 (P 124 47 64)) (.enu (.var 3 "_law_more" (P 124 78 87)) (P 124 68 77) (P 124 68 88)) (.cons (.bop .And (.cmp (.var 6 "_law_one" (P 124 92 100)) .NotIn (.var 1 "_law_found" (P 124 108 118)) (P 124 92 118)) (.cons (.cmp (.var 6 "_law_one" (P 124 123 131)) .NotIn (.sl (.var 3 "_law_more" (P 124 139 148)) .no (.yes (.var 7 "_law_at" (P 124 150 157))) (P 124 149 157) (P 124 139 158)) (P 124 123 158)) .nil) (P 124 92 158)) .nil) ⟨.function, [(".0", .local), ("_law_at", .local), ("_law_one", .local), ("_law_found", .free), ("_law_more", .free)], false, false, []⟩ [("_law_at", 7), ("_law_one", 6)] (P 124 33 159))
def u25_2 : T :=
   (.set ⟨5, "_law_some", (P 124 8 17)⟩ (.v (.bin (.var 1 "_law_found" (P 124 20 30)) .Add c25_2 (P 124 20 159))) (P 124 8 159))
def u25_3 : T :=
   (.set ⟨1, "_law_found", (P 125 8 18)⟩ (.v (.ife (.cmp (.bi1 .len (P 125 34 37) (.var 5 "_law_some" (P 125 38 47)) (P 125 34 48)) .Lt (.con (.int 8) 0 (P 125 51 52)) (P 125 34 52)) (.var 5 "_law_some" (P 125 21 30)) (.var 1 "_law_found" (P 125 58 68)) (P 125 21 68))) (P 125 8 68))
def s25_0 : Ts :=
   (.cons u25_0 (.cons u25_1 (.cons u25_2 (.cons u25_3 .nil))))
def t25_1 : T :=
   (.for (.nm 2 "_law_turn" (P 121 8 17)) (.rng (.bin (.con (.int 1) 0 (P 121 27 28)) .Add (.call 22 "_law_draw" (P 121 31 40) (.share 0 "_law_pot_here" (P 121 41 54) (.val (.con (.int 5) 0 (P 121 56 57)) .nil)) (P 121 31 58)) (P 121 27 58)) (P 121 21 26) (P 121 21 59)) s25_0 ⟨121, 4, 125, 68⟩)
def t25_2 : T :=
   (.ret (.call 24 "_law_mixed" (P 126 11 21) (.share 0 "_law_pot_here" (P 126 22 35) (.share 1 "_law_found" (P 126 37 47) .nil)) (P 126 11 48)) (P 126 4 48))
def b25 : Ts :=
   (.cons t25_0 (.cons t25_1 (.cons t25_2 .nil)))
def d25 : DI := ⟨"_law_lots", "_law_lots", none, true, ["_law_pot_here"], ["_law_pot_here", "_law_found", "_law_turn", "_law_more", "_law_fresh", "_law_some", "_law_one", "_law_at"], defArgs (topS 30), ⟨.function, [("_law_pot_here", .cell), ("_law_found", .cell), ("_law_turn", .local), ("_law_more", .cell), ("_law_fresh", .cell), ("_law_some", .local), ("range", .globalImplicit), ("_law_draw", .globalImplicit), ("sorted", .globalImplicit), ("set", .globalImplicit), ("enumerate", .globalImplicit), ("len", .globalImplicit), ("_law_mixed", .globalImplicit)], false, false, [("fast", .str "_law_pot_here"), ("fast", .str "_law_found"), ("fast", .str "_law_turn"), ("fast", .str "_law_more"), ("fast", .str "_law_fresh"), ("fast", .str "_law_one"), ("fast", .str "_law_at"), ("fast", .str "_law_some")]⟩, b25⟩
/-- _law_melting -/
def t26_0 : T :=
   (.set ⟨1, "_law_lots_here", (P 128 4 18)⟩ (.v (.call 25 "_law_lots" (P 128 21 30) (.share 0 "_law_pot_here" (P 128 31 44) .nil) (P 128 21 45))) (P 128 4 45))
def c26_0 : E :=
   (.comp (.idx (.var 1 "_law_lots_here" (P 129 13 27)) (P 129 13 33) (.ss (P 129 34 40) (P 129 41 44) (.bin (.var 2 "_law_one" (P 129 45 53)) .Add (.var 3 "_law_other" (P 129 56 66)) (P 129 45 66)) (P 129 41 67) (P 129 34 68)) (P 129 13 69)) (.nm 3 "_law_other" (P 129 74 84)) (.e (.var 1 "_law_lots_here" (P 129 88 102))) .nil ⟨.function, [(".0", .local), ("_law_other", .local), ("sorted", .globalImplicit), ("set", .globalImplicit), ("_law_lots_here", .free), ("_law_one", .free)], false, false, []⟩ [("_law_other", 3)] (P 129 12 103))
def c26_1 : E :=
   (.comp c26_0 (.nm 2 "_law_one" (P 129 108 116)) (.e (.var 1 "_law_lots_here" (P 129 120 134))) .nil ⟨.function, [(".0", .local), ("_law_one", .cell), ("_law_lots_here", .free)], false, false, []⟩ [("_law_one", 2)] (P 129 11 135))
def t26_1 : T :=
   (.retO (.oo c26_1) (P 129 4 135))
def b26 : Ts :=
   (.cons t26_0 (.cons t26_1 .nil))
def d26 : DI := ⟨"_law_melting", "_law_melting", none, true, ["_law_pot_here"], ["_law_pot_here", "_law_lots_here", "_law_one", "_law_other"], defArgs (topS 31), ⟨.function, [("_law_pot_here", .local), ("_law_lots_here", .cell), ("_law_lots", .globalImplicit)], false, false, [("fast", .str "_law_pot_here"), ("fast", .str "_law_lots_here"), ("fast", .str "_law_one"), ("fast", .str "_law_other")]⟩, b26⟩
/-- _law_table -/
def t27_0 : T :=
   (.par [⟨1, "_law_rows", (P 131 4 13)⟩, ⟨2, "_law_way", (P 131 15 23)⟩] 0 (P 131 4 23) [(.oc (.call 26 "_law_melting" (P 131 27 39) (.share 0 "_law_pot_here" (P 131 40 53) .nil) (P 131 27 54))), (.v (.call 22 "_law_draw" (P 131 56 65) (.share 0 "_law_pot_here" (P 131 66 79) (.val (.con (.int 5) 0 (P 131 81 82)) .nil)) (P 131 56 83)))] 0 (P 131 26 84) (P 131 4 84))
def c27_0 : E :=
   (.comp (.call 22 "_law_draw" (P 133 22 31) (.share 0 "_law_pot_here" (P 133 32 45) (.val (.bi1 .len (P 133 47 50) (.bv 1 "_law_rows" (P 133 51 60)) (P 133 47 61)) .nil)) (P 133 22 62)) (.nm 5 "_law_other" (P 133 67 77)) (.e (.var 1 "_law_rows" (P 133 81 90))) .nil ⟨.function, [(".0", .local), ("_law_other", .local), ("_law_draw", .globalImplicit), ("len", .globalImplicit), ("_law_pot_here", .free), ("_law_rows", .free)], false, false, []⟩ [("_law_other", 5)] (P 133 21 91))
def c27_1 : E :=
   (.comp c27_0 (.nm 4 "_law_one" (P 133 96 104)) (.e (.var 1 "_law_rows" (P 133 108 117))) .nil ⟨.function, [(".0", .local), ("_law_one", .local), ("_law_pot_here", .free), ("_law_rows", .free)], false, false, []⟩ [("_law_one", 4)] (P 133 20 118))
def u27_0 : T :=
   (.set ⟨1, "_law_rows", (P 133 8 17)⟩ (.oo c27_1) (P 133 8 118))
def s27_0 : Ts :=
   (.cons u27_0 .nil)
def t27_1 : T :=
   (.iff (.cmp (.var 2 "_law_way" (P 132 7 15)) .Eq (.con (.int 0) 0 (P 132 19 20)) (P 132 7 20)) s27_0 .nil ⟨132, 4, 133, 118⟩)
def u27_1 : T :=
   (.setII ⟨1, "_law_rows", (P 136 12 21)⟩ (.call 22 "_law_draw" (P 136 22 31) (.share 0 "_law_pot_here" (P 136 32 45) (.val (.bi1 .len (P 136 47 50) (.bv 1 "_law_rows" (P 136 51 60)) (P 136 47 61)) .nil)) (P 136 22 62)) (P 136 12 63) (.call 22 "_law_draw" (P 136 64 73) (.share 0 "_law_pot_here" (P 136 74 87) (.val (.bi1 .len (P 136 89 92) (.bv 1 "_law_rows" (P 136 93 102)) (P 136 89 103)) .nil)) (P 136 64 104)) (P 136 12 105) (.call 22 "_law_draw" (P 136 108 117) (.share 0 "_law_pot_here" (P 136 118 131) (.val (.bi1 .len (P 136 133 136) (.bv 1 "_law_rows" (P 136 137 146)) (P 136 133 147)) .nil)) (P 136 108 148)) (P 136 12 148))
def s27_1 : Ts :=
   (.cons u27_1 .nil)
def u27_2 : T :=
   (.for (.nm 3 "_law_turn" (P 135 12 21)) (.rng (.var 2 "_law_way" (P 135 31 39)) (P 135 25 30) (P 135 25 40)) s27_1 ⟨135, 8, 136, 148⟩)
def s27_2 : Ts :=
   (.cons u27_2 .nil)
def t27_2 : T :=
   (.iff (.cmp (.var 2 "_law_way" (P 134 7 15)) .In (.lst (.cons (.con (.int 1) 0 (P 134 20 21)) (.cons (.con (.int 2) 0 (P 134 23 24)) .nil)) (P 134 19 25)) (P 134 7 25)) s27_2 .nil ⟨134, 4, 136, 148⟩)
def t27_3 : T :=
   (.ret (.var 1 "_law_rows" (P 137 11 20)) (P 137 4 20))
def b27 : Ts :=
   (.cons t27_0 (.cons t27_1 (.cons t27_2 (.cons t27_3 .nil))))
def d27 : DI := ⟨"_law_table", "_law_table", none, true, ["_law_pot_here"], ["_law_pot_here", "_law_rows", "_law_way", "_law_turn", "_law_one", "_law_other"], defArgs (topS 32), ⟨.function, [("_law_pot_here", .cell), ("_law_rows", .cell), ("_law_way", .local), ("_law_turn", .local), ("_law_melting", .globalImplicit), ("_law_draw", .globalImplicit), ("range", .globalImplicit), ("len", .globalImplicit)], false, false, [("fast", .str "_law_pot_here"), ("fast", .str "_law_rows"), ("fast", .str "_law_way"), ("fast", .str "_law_one"), ("fast", .str "_law_other"), ("fast", .str "_law_turn")]⟩, b27⟩
/-- _law_melts -/
def t28_0 : T :=
   (.set ⟨1, "_law_span", (P 139 4 13)⟩ (.v (.lrng (P 139 16 20) (P 139 21 26) (.bi1 .len (P 139 27 30) (.var 0 "_law_rows" (P 139 31 40)) (P 139 27 41)) (P 139 21 42) (P 139 16 43))) (P 139 4 43))
def u28_0 : T :=
   (.ret (.con (.bool false) 0 (P 143 23 28)) (P 143 16 28))
def s28_0 : Ts :=
   (.cons u28_0 .nil)
def u28_1 : T :=
   (.iff (.bop .Or (.cmp (.sub (.sub (.var 0 "_law_rows" (P 142 15 24)) (.var 2 "_law_x" (P 142 25 31)) (P 142 15 32)) (.var 2 "_law_x" (P 142 33 39)) (P 142 15 40)) .NotEq (.var 2 "_law_x" (P 142 44 50)) (P 142 15 50)) (.cons (.cmp (.sub (.sub (.var 0 "_law_rows" (P 142 54 63)) (.var 2 "_law_x" (P 142 64 70)) (P 142 54 71)) (.var 3 "_law_y" (P 142 72 78)) (P 142 54 79)) .NotEq (.sub (.sub (.var 0 "_law_rows" (P 142 83 92)) (.var 3 "_law_y" (P 142 93 99)) (P 142 83 100)) (.var 2 "_law_x" (P 142 101 107)) (P 142 83 108)) (P 142 54 108)) .nil) (P 142 15 108)) s28_0 .nil ⟨142, 12, 143, 28⟩)
def c28_0 : E :=
   (.comp (.cmp (.sub (.sub (.var 0 "_law_rows" (P 144 20 29)) (.sub (.sub (.var 0 "_law_rows" (P 144 30 39)) (.var 2 "_law_x" (P 144 40 46)) (P 144 30 47)) (.var 3 "_law_y" (P 144 48 54)) (P 144 30 55)) (P 144 20 56)) (.var 4 "_law_z" (P 144 57 63)) (P 144 20 64)) .NotEq (.sub (.sub (.var 0 "_law_rows" (P 144 68 77)) (.var 2 "_law_x" (P 144 78 84)) (P 144 68 85)) (.sub (.sub (.var 0 "_law_rows" (P 144 86 95)) (.var 3 "_law_y" (P 144 96 102)) (P 144 86 103)) (.var 4 "_law_z" (P 144 104 110)) (P 144 86 111)) (P 144 68 112)) (P 144 20 112)) (.nm 4 "_law_z" (P 144 117 123)) (.e (.var 1 "_law_span" (P 144 127 136))) .nil ⟨.function, [(".0", .local), ("_law_z", .local), ("_law_rows", .free), ("_law_x", .free), ("_law_y", .free)], false, false, []⟩ [("_law_z", 4)] (P 144 19 137))
def u28_2 : T :=
   (.ret (.con (.bool false) 0 (P 145 23 28)) (P 145 16 28))
def s28_1 : Ts :=
   (.cons u28_2 .nil)
def u28_3 : T :=
   (.iff (.bi1 .any (P 144 15 18) c28_0 (P 144 15 138)) s28_1 .nil ⟨144, 12, 145, 28⟩)
def s28_2 : Ts :=
   (.cons u28_1 (.cons u28_3 .nil))
def u28_4 : T :=
   (.for (.nm 3 "_law_y" (P 141 12 18)) (.e (.var 1 "_law_span" (P 141 22 31))) s28_2 ⟨141, 8, 145, 28⟩)
def s28_3 : Ts :=
   (.cons u28_4 .nil)
def t28_1 : T :=
   (.for (.nm 2 "_law_x" (P 140 8 14)) (.e (.var 1 "_law_span" (P 140 18 27))) s28_3 ⟨140, 4, 145, 28⟩)
def t28_2 : T :=
   (.ret (.con (.bool true) 0 (P 146 11 15)) (P 146 4 15))
def b28 : Ts :=
   (.cons t28_0 (.cons t28_1 (.cons t28_2 .nil)))
def d28 : DI := ⟨"_law_melts", "_law_melts", none, true, ["_law_rows"], ["_law_rows", "_law_span", "_law_x", "_law_y", "_law_z"], defArgs (topS 33), ⟨.function, [("_law_rows", .cell), ("_law_span", .local), ("_law_x", .cell), ("_law_y", .cell), ("list", .globalImplicit), ("range", .globalImplicit), ("len", .globalImplicit), ("any", .globalImplicit)], false, false, [("fast", .str "_law_rows"), ("fast", .str "_law_span"), ("fast", .str "_law_x"), ("fast", .str "_law_y"), ("fast", .str "_law_z")]⟩, b28⟩
/-- _law_values -/
def t29_0 : T :=
   (.par [⟨1, "_law_found", (P 148 4 14)⟩, ⟨2, "_law_left", (P 148 16 25)⟩] 0 (P 148 4 25) [(.o (.lst .nil (P 148 29 31))), (.o (.lst (.cons (.var 0 "_law_melt" (P 148 34 43)) .nil) (P 148 33 44)))] 0 (P 148 28 45) (P 148 4 45))
def c29_0 : E :=
   (.cmp (.bv 2 "_law_left" (P 149 10 19)) .NotEq (.lst .nil (P 149 23 25)) (P 149 10 25))
def u29_0 : T :=
   (.set ⟨3, "_law_here", (P 150 8 17)⟩ (.v (.mth0 .pop 2 "_law_left" (P 150 20 29) (P 150 20 33) (P 150 20 35))) (P 150 8 35))
def u29_1 : T :=
   (.exp (.mth1 .extend 2 "_law_left" (P 152 12 21) (P 152 12 28) (.lst (.cons (.sub (.var 3 "_law_here" (P 152 30 39)) (.con (.int 1) 0 (P 152 40 41)) (P 152 30 42)) (.cons (.sub (.var 3 "_law_here" (P 152 44 53)) (.con (.int 0) 0 (P 152 54 55)) (P 152 44 56)) .nil)) (P 152 29 57)) (P 152 12 58)) (P 152 12 58))
def s29_0 : Ts :=
   (.cons u29_1 .nil)
def u29_2 : T :=
   (.exp (.mth1 .append 1 "_law_found" (P 154 12 22) (P 154 12 29) (.var 3 "_law_here" (P 154 30 39)) (P 154 12 40)) (P 154 12 40))
def s29_1 : Ts :=
   (.cons u29_2 .nil)
def u29_3 : T :=
   (.iff (.isi (.var 3 "_law_here" (P 151 22 31)) .tuple (P 151 11 21) (P 151 33 38) (P 151 11 39)) s29_0 s29_1 ⟨151, 8, 154, 40⟩)
def s29_2 : Ts :=
   (.cons u29_0 (.cons u29_3 .nil))
def t29_1 : T :=
   (.whl c29_0 s29_2 ⟨149, 4, 154, 40⟩)
def t29_2 : T :=
   (.ret (.var 1 "_law_found" (P 155 11 21)) (P 155 4 21))
def b29 : Ts :=
   (.cons t29_0 (.cons t29_1 (.cons t29_2 .nil)))
def d29 : DI := ⟨"_law_values", "_law_values", none, true, ["_law_melt"], ["_law_melt", "_law_found", "_law_left", "_law_here"], defArgs (topS 34), ⟨.function, [("_law_melt", .local), ("_law_found", .local), ("_law_left", .local), ("_law_here", .local), ("isinstance", .globalImplicit), ("tuple", .globalImplicit)], false, false, []⟩, b29⟩
/-- _law_result -/
def u30_0 : T :=
   (.ret (.sub (.sub (.var 0 "_law_rows" (P 158 15 24)) (.call 30 "_law_result" (P 158 25 36) (.share 0 "_law_rows" (P 158 37 46) (.val (.sub (.var 1 "_law_melt" (P 158 48 57)) (.con (.int 0) 0 (P 158 58 59)) (P 158 48 60)) .nil)) (P 158 25 61)) (P 158 15 62)) (.call 30 "_law_result" (P 158 63 74) (.share 0 "_law_rows" (P 158 75 84) (.val (.sub (.var 1 "_law_melt" (P 158 86 95)) (.con (.int 1) 0 (P 158 96 97)) (P 158 86 98)) .nil)) (P 158 63 99)) (P 158 15 100)) (P 158 8 100))
def s30_0 : Ts :=
   (.cons u30_0 .nil)
def t30_0 : T :=
   (.iff (.isi (.var 1 "_law_melt" (P 157 18 27)) .tuple (P 157 7 17) (P 157 29 34) (P 157 7 35)) s30_0 .nil ⟨157, 4, 158, 100⟩)
def t30_1 : T :=
   (.ret (.var 1 "_law_melt" (P 159 11 20)) (P 159 4 20))
def b30 : Ts :=
   (.cons t30_0 (.cons t30_1 .nil))
def d30 : DI := ⟨"_law_result", "_law_result", none, true, ["_law_rows", "_law_melt"], ["_law_rows", "_law_melt"], defArgs (topS 35), ⟨.function, [("_law_rows", .local), ("_law_melt", .local), ("isinstance", .globalImplicit), ("tuple", .globalImplicit), ("_law_result", .globalImplicit)], false, false, []⟩, b30⟩
/-- _law_grouped -/
def t31_0 : T :=
   (.set ⟨2, "_law_left", (P 161 4 13)⟩ (.v (.conv .list (P 161 16 20) (.var 1 "_law_values_here" (P 161 21 37)) (P 161 16 38))) (P 161 4 38))
def c31_0 : E :=
   (.cmp (.bi1 .len (P 162 10 13) (.var 2 "_law_left" (P 162 14 23)) (P 162 10 24)) .Gt (.con (.int 1) 0 (P 162 27 28)) (P 162 10 28))
def u31_0 : T :=
   (.set ⟨3, "_law_at", (P 163 8 15)⟩ (.v (.call 22 "_law_draw" (P 163 18 27) (.share 0 "_law_pot_here" (P 163 28 41) (.val (.bin (.bi1 .len (P 163 43 46) (.var 2 "_law_left" (P 163 47 56)) (P 163 43 57)) .Sub (.con (.int 1) 0 (P 163 60 61)) (P 163 43 61)) .nil)) (P 163 18 62))) (P 163 8 62))
def u31_1 : T :=
   (.set ⟨2, "_law_left", (P 164 8 17)⟩ (.v (.bin (.bin (.sl (.var 2 "_law_left" (P 164 20 29)) .no (.yes (.var 3 "_law_at" (P 164 31 38))) (P 164 30 38) (P 164 20 39)) .Add (.lst (.cons (.tup (.cons (.sub (.var 2 "_law_left" (P 164 44 53)) (.var 3 "_law_at" (P 164 54 61)) (P 164 44 62)) (.cons (.sub (.var 2 "_law_left" (P 164 64 73)) (.bin (.var 3 "_law_at" (P 164 74 81)) .Add (.con (.int 1) 0 (P 164 84 85)) (P 164 74 85)) (P 164 64 86)) .nil)) 0 (P 164 43 87)) .nil) (P 164 42 88)) (P 164 20 88)) .Add (.sl (.var 2 "_law_left" (P 164 91 100)) (.yes (.bin (.var 3 "_law_at" (P 164 101 108)) .Add (.con (.int 2) 0 (P 164 111 112)) (P 164 101 112))) .no (P 164 101 113) (P 164 91 114)) (P 164 20 114))) (P 164 8 114))
def s31_0 : Ts :=
   (.cons u31_0 (.cons u31_1 .nil))
def t31_1 : T :=
   (.whl c31_0 s31_0 ⟨162, 4, 164, 114⟩)
def t31_2 : T :=
   (.ret (.sub (.var 2 "_law_left" (P 165 11 20)) (.con (.int 0) 0 (P 165 21 22)) (P 165 11 23)) (P 165 4 23))
def b31 : Ts :=
   (.cons t31_0 (.cons t31_1 (.cons t31_2 .nil)))
def d31 : DI := ⟨"_law_grouped", "_law_grouped", none, true, ["_law_pot_here", "_law_values_here"], ["_law_pot_here", "_law_values_here", "_law_left", "_law_at"], defArgs (topS 36), ⟨.function, [("_law_pot_here", .local), ("_law_values_here", .local), ("_law_left", .local), ("_law_at", .local), ("list", .globalImplicit), ("len", .globalImplicit), ("_law_draw", .globalImplicit)], false, false, []⟩, b31⟩
/-- _law_is_parting -/
def c32_0 : E :=
   (.comp (.call 33 "_law_is_melt" (P 167 78 90) (.share 0 "_law_rows" (P 167 91 100) (.share 4 "_law_part" (P 167 102 111) .nil)) (P 167 78 112)) (.nm 4 "_law_part" (P 167 117 126)) (.e (.var 1 "_law_thing" (P 167 130 140))) .nil ⟨.function, [(".0", .local), ("_law_part", .local), ("_law_is_melt", .globalImplicit), ("_law_rows", .free)], false, false, []⟩ [("_law_part", 4)] (P 167 77 141))
def u32_0 : T :=
   (.ret (.con (.bool false) 0 (P 168 15 20)) (P 168 8 20))
def s32_0 : Ts :=
   (.cons u32_0 .nil)
def t32_0 : T :=
   (.iff (.bop .Or (.una .Not (.isi (.var 1 "_law_thing" (P 167 22 32)) .tuple (P 167 11 21) (P 167 34 39) (P 167 11 40)) (P 167 7 40)) (.cons (.cmp (.bi1 .len (P 167 44 47) (.var 1 "_law_thing" (P 167 48 58)) (P 167 44 59)) .NotEq (.con (.int 2) 0 (P 167 63 64)) (P 167 44 64)) (.cons (.una .Not (.bi1 .all (P 167 73 76) c32_0 (P 167 73 142)) (P 167 69 142)) .nil)) (P 167 7 143)) s32_0 .nil ⟨167, 4, 168, 20⟩)
def c32_1 : E :=
   (.comp (.bi1 .len (P 169 12 15) (.call 29 "_law_values" (P 169 16 27) (.share 4 "_law_part" (P 169 28 37) .nil) (P 169 16 38)) (P 169 12 39)) (.nm 4 "_law_part" (P 169 44 53)) (.e (.var 1 "_law_thing" (P 169 57 67))) .nil ⟨.function, [(".0", .local), ("_law_part", .local), ("len", .globalImplicit), ("_law_values", .globalImplicit)], false, false, []⟩ [("_law_part", 4)] (P 169 11 68))
def u32_1 : T :=
   (.ret (.con (.bool false) 0 (P 170 15 20)) (P 170 8 20))
def s32_1 : Ts :=
   (.cons u32_1 .nil)
def t32_1 : T :=
   (.iff (.cmp (.bi1 .maxL (P 169 7 10) c32_1 (P 169 7 69)) .Gt (.con (.int 40) 0 (P 169 72 74)) (P 169 7 74)) s32_1 .nil ⟨169, 4, 170, 20⟩)
def c32_2 : E :=
   (.comp (.ss (P 171 28 34) (P 171 35 38) (.call 29 "_law_values" (P 171 39 50) (.share 4 "_law_part" (P 171 51 60) .nil) (P 171 39 61)) (P 171 35 62) (P 171 28 63)) (.nm 4 "_law_part" (P 171 68 77)) (.e (.var 1 "_law_thing" (P 171 81 91))) .nil ⟨.function, [(".0", .local), ("_law_part", .local), ("sorted", .globalImplicit), ("set", .globalImplicit), ("_law_values", .globalImplicit)], false, false, []⟩ [("_law_part", 4)] (P 171 27 92))
def t32_2 : T :=
   (.asg (.tp (.cons (.nm 2 "_law_one" (P 171 4 12)) (.cons (.nm 3 "_law_other" (P 171 14 24)) .nil)) 0 (P 171 4 24)) c32_2 (P 171 4 92))
def t32_3 : T :=
   (.ret (.bop .And (.cmp (.var 2 "_law_one" (P 172 11 19)) .Eq (.var 3 "_law_other" (P 172 23 33)) (P 172 11 33)) (.cons (.cmp (.call 30 "_law_result" (P 172 38 49) (.share 0 "_law_rows" (P 172 50 59) (.val (.sub (.var 1 "_law_thing" (P 172 61 71)) (.con (.int 0) 0 (P 172 72 73)) (P 172 61 74)) .nil)) (P 172 38 75)) .NotEq (.call 30 "_law_result" (P 172 79 90) (.share 0 "_law_rows" (P 172 91 100) (.val (.sub (.var 1 "_law_thing" (P 172 102 112)) (.con (.int 1) 0 (P 172 113 114)) (P 172 102 115)) .nil)) (P 172 79 116)) (P 172 38 116)) .nil) (P 172 11 116)) (P 172 4 116))
def b32 : Ts :=
   (.cons t32_0 (.cons t32_1 (.cons t32_2 (.cons t32_3 .nil))))
def d32 : DI := ⟨"_law_is_parting", "_law_is_parting", none, true, ["_law_rows", "_law_thing"], ["_law_rows", "_law_thing", "_law_one", "_law_other", "_law_part"], defArgs (topS 37), ⟨.function, [("_law_rows", .cell), ("_law_thing", .local), ("_law_one", .local), ("_law_other", .local), ("isinstance", .globalImplicit), ("tuple", .globalImplicit), ("len", .globalImplicit), ("all", .globalImplicit), ("max", .globalImplicit), ("_law_result", .globalImplicit)], false, false, [("fast", .str "_law_rows"), ("fast", .str "_law_thing"), ("fast", .str "_law_part"), ("fast", .str "_law_one"), ("fast", .str "_law_other")]⟩, b32⟩
/-- _law_is_melt -/
def u33_0 : T :=
   (.ret (.bop .And (.cmp (.bi1 .len (P 175 15 18) (.var 1 "_law_thing" (P 175 19 29)) (P 175 15 30)) .Eq (.con (.int 2) 0 (P 175 34 35)) (P 175 15 35)) (.cons (.call 33 "_law_is_melt" (P 175 40 52) (.share 0 "_law_rows" (P 175 53 62) (.val (.sub (.var 1 "_law_thing" (P 175 64 74)) (.con (.int 0) 0 (P 175 75 76)) (P 175 64 77)) .nil)) (P 175 40 78)) (.cons (.call 33 "_law_is_melt" (P 175 83 95) (.share 0 "_law_rows" (P 175 96 105) (.val (.sub (.var 1 "_law_thing" (P 175 107 117)) (.con (.int 1) 0 (P 175 118 119)) (P 175 107 120)) .nil)) (P 175 83 121)) .nil)) (P 175 15 121)) (P 175 8 121))
def s33_0 : Ts :=
   (.cons u33_0 .nil)
def t33_0 : T :=
   (.iff (.isi (.var 1 "_law_thing" (P 174 18 28)) .tuple (P 174 7 17) (P 174 30 35) (P 174 7 36)) s33_0 .nil ⟨174, 4, 175, 121⟩)
def t33_1 : T :=
   (.ret (.bop .And (.isi (.var 1 "_law_thing" (P 176 22 32)) .int (P 176 11 21) (P 176 34 37) (P 176 11 38)) (.cons (.cmp (.var 1 "_law_thing" (P 176 43 53)) .IsNot (.con (.bool true) 0 (P 176 61 65)) (P 176 43 65)) (.cons (.cmp (.var 1 "_law_thing" (P 176 71 81)) .IsNot (.con (.bool false) 0 (P 176 89 94)) (P 176 71 94)) (.cons (.cmp2 (.con (.int 0) 0 (P 176 101 102)) .LtE (.var 1 "_law_thing" (P 176 106 116)) .Lt (.bi1 .len (P 176 119 122) (.var 0 "_law_rows" (P 176 123 132)) (P 176 119 133)) (P 176 101 133)) .nil))) (P 176 11 134)) (P 176 4 134))
def b33 : Ts :=
   (.cons t33_0 (.cons t33_1 .nil))
def d33 : DI := ⟨"_law_is_melt", "_law_is_melt", none, true, ["_law_rows", "_law_thing"], ["_law_rows", "_law_thing"], defArgs (topS 38), ⟨.function, [("_law_rows", .local), ("_law_thing", .local), ("isinstance", .globalImplicit), ("tuple", .globalImplicit), ("len", .globalImplicit), ("_law_is_melt", .globalImplicit), ("int", .globalImplicit)], false, false, []⟩, b33⟩
/-- _law_two -/
def c34_0 : E :=
   (.comp (.call 22 "_law_draw" (P 178 24 33) (.share 0 "_law_pot_here" (P 178 34 47) (.val (.bi1 .len (P 178 49 52) (.var 1 "_law_rows" (P 178 53 62)) (P 178 49 63)) .nil)) (P 178 24 64)) (.nm 4 "_law_turn" (P 178 69 78)) (.rng (.bin (.con (.int 1) 0 (P 178 88 89)) .Add (.call 22 "_law_draw" (P 178 92 101) (.share 0 "_law_pot_here" (P 178 102 115) (.val (.con (.int 4) 0 (P 178 117 118)) .nil)) (P 178 92 119)) (P 178 88 119)) (P 178 82 87) (P 178 82 120)) .nil ⟨.function, [(".0", .local), ("_law_turn", .local), ("_law_draw", .globalImplicit), ("len", .globalImplicit), ("_law_pot_here", .free), ("_law_rows", .free)], false, false, []⟩ [("_law_turn", 4)] (P 178 23 121))
def t34_0 : T :=
   (.set ⟨2, "_law_values_here", (P 178 4 20)⟩ (.v c34_0) (P 178 4 121))
def c34_1 : E :=
   (.comp (.call 23 "_law_pick" (P 179 36 45) (.share 0 "_law_pot_here" (P 179 46 59) (.share 2 "_law_values_here" (P 179 61 77) .nil)) (P 179 36 78)) (.nm 4 "_law_turn" (P 179 83 92)) (.rng (.call 22 "_law_draw" (P 179 102 111) (.share 0 "_law_pot_here" (P 179 112 125) (.val (.con (.int 3) 0 (P 179 127 128)) .nil)) (P 179 102 129)) (P 179 96 101) (P 179 96 130)) .nil ⟨.function, [(".0", .local), ("_law_turn", .local), ("_law_pick", .globalImplicit), ("_law_pot_here", .free), ("_law_values_here", .free)], false, false, []⟩ [("_law_turn", 4)] (P 179 35 131))
def t34_1 : T :=
   (.set ⟨3, "_law_more", (P 179 4 13)⟩ (.v (.bin (.var 2 "_law_values_here" (P 179 16 32)) .Add c34_1 (P 179 16 131))) (P 179 4 131))
def t34_2 : T :=
   (.ret (.tup (.cons (.call 31 "_law_grouped" (P 180 12 24) (.share 0 "_law_pot_here" (P 180 25 38) (.val (.call 24 "_law_mixed" (P 180 40 50) (.share 0 "_law_pot_here" (P 180 51 64) (.share 2 "_law_values_here" (P 180 66 82) .nil)) (P 180 40 83)) .nil)) (P 180 12 84)) (.cons (.call 31 "_law_grouped" (P 180 86 98) (.share 0 "_law_pot_here" (P 180 99 112) (.val (.call 24 "_law_mixed" (P 180 114 124) (.share 0 "_law_pot_here" (P 180 125 138) (.share 3 "_law_more" (P 180 140 149) .nil)) (P 180 114 150)) .nil)) (P 180 86 151)) .nil)) 0 (P 180 11 152)) (P 180 4 152))
def b34 : Ts :=
   (.cons t34_0 (.cons t34_1 (.cons t34_2 .nil)))
def d34 : DI := ⟨"_law_two", "_law_two", none, true, ["_law_pot_here", "_law_rows"], ["_law_pot_here", "_law_rows", "_law_values_here", "_law_more", "_law_turn"], defArgs (topS 39), ⟨.function, [("_law_pot_here", .cell), ("_law_rows", .cell), ("_law_values_here", .cell), ("_law_more", .local), ("range", .globalImplicit), ("_law_draw", .globalImplicit), ("_law_grouped", .globalImplicit), ("_law_mixed", .globalImplicit)], false, false, [("fast", .str "_law_pot_here"), ("fast", .str "_law_rows"), ("fast", .str "_law_turn"), ("fast", .str "_law_values_here"), ("fast", .str "_law_more")]⟩, b34⟩
/-- _law_truths -/
def u35_0 : T :=
   (.ret (.tup (.cons (.call 35 "_law_truths" (P 183 16 27) (.val (.sub (.var 0 "_law_melt" (P 183 28 37)) (.con (.int 0) 0 (P 183 38 39)) (P 183 28 40)) .nil) (P 183 16 41)) (.cons (.call 35 "_law_truths" (P 183 43 54) (.val (.sub (.var 0 "_law_melt" (P 183 55 64)) (.con (.int 1) 0 (P 183 65 66)) (P 183 55 67)) .nil) (P 183 43 68)) .nil)) 0 (P 183 15 69)) (P 183 8 69))
def s35_0 : Ts :=
   (.cons u35_0 .nil)
def t35_0 : T :=
   (.iff (.isi (.var 0 "_law_melt" (P 182 18 27)) .tuple (P 182 7 17) (P 182 29 34) (P 182 7 35)) s35_0 .nil ⟨182, 4, 183, 69⟩)
def t35_1 : T :=
   (.ret (.ife (.cmp (.var 0 "_law_melt" (P 184 29 38)) .Lt (.con (.int 2) 0 (P 184 41 42)) (P 184 29 42)) (.cmp (.var 0 "_law_melt" (P 184 11 20)) .Eq (.con (.int 1) 0 (P 184 24 25)) (P 184 11 25)) (.var 0 "_law_melt" (P 184 48 57)) (P 184 11 57)) (P 184 4 57))
def b35 : Ts :=
   (.cons t35_0 (.cons t35_1 .nil))
def d35 : DI := ⟨"_law_truths", "_law_truths", none, true, ["_law_melt"], ["_law_melt"], defArgs (topS 40), ⟨.function, [("_law_melt", .local), ("isinstance", .globalImplicit), ("tuple", .globalImplicit), ("_law_truths", .globalImplicit)], false, false, []⟩, b35⟩
/-- _law_even -/
def u36_0 : T :=
   (.ret (.sub (.var 0 "_law_values_here" (P 187 15 31)) (.con (.int 0) 0 (P 187 32 33)) (P 187 15 34)) (P 187 8 34))
def s36_0 : Ts :=
   (.cons u36_0 .nil)
def t36_0 : T :=
   (.iff (.cmp (.bi1 .len (P 186 7 10) (.var 0 "_law_values_here" (P 186 11 27)) (P 186 7 28)) .Eq (.con (.int 1) 0 (P 186 32 33)) (P 186 7 33)) s36_0 .nil ⟨186, 4, 187, 34⟩)
def t36_1 : T :=
   (.set ⟨1, "_law_at", (P 188 4 11)⟩ (.v (.bin (.bi1 .len (P 188 14 17) (.var 0 "_law_values_here" (P 188 18 34)) (P 188 14 35)) .FloorDiv (.con (.int 2) 0 (P 188 39 40)) (P 188 14 40))) (P 188 4 40))
def t36_2 : T :=
   (.ret (.tup (.cons (.call 36 "_law_even" (P 189 12 21) (.val (.sl (.var 0 "_law_values_here" (P 189 22 38)) .no (.yes (.var 1 "_law_at" (P 189 40 47))) (P 189 39 47) (P 189 22 48)) .nil) (P 189 12 49)) (.cons (.call 36 "_law_even" (P 189 51 60) (.val (.sl (.var 0 "_law_values_here" (P 189 61 77)) (.yes (.var 1 "_law_at" (P 189 78 85))) .no (P 189 78 86) (P 189 61 87)) .nil) (P 189 51 88)) .nil)) 0 (P 189 11 89)) (P 189 4 89))
def b36 : Ts :=
   (.cons t36_0 (.cons t36_1 (.cons t36_2 .nil)))
def d36 : DI := ⟨"_law_even", "_law_even", none, true, ["_law_values_here"], ["_law_values_here", "_law_at"], defArgs (topS 41), ⟨.function, [("_law_values_here", .local), ("_law_at", .local), ("len", .globalImplicit), ("_law_even", .globalImplicit)], false, false, []⟩, b36⟩
/-- _law_long_right -/
def t37_0 : T :=
   (.par [⟨1, "_law_table_here", (P 191 4 19)⟩, ⟨2, "_law_many", (P 191 21 30)⟩] 0 (P 191 4 30) [(.v (.new 0 3 "Table" (P 191 34 39) (.val (.lst (.cons (.lst (.cons (.con (.int 0) 0 (P 191 42 43)) (.cons (.con (.int 1) 0 (P 191 45 46)) .nil)) (P 191 41 47)) (.cons (.lst (.cons (.con (.int 0) 0 (P 191 50 51)) (.cons (.con (.int 1) 0 (P 191 53 54)) .nil)) (P 191 49 55)) .nil)) (P 191 40 56)) .nil) (P 191 34 57))), (.v (.bin (.con (.int 20) 0 (P 191 59 61)) .Add (.call 22 "_law_draw" (P 191 64 73) (.share 0 "_law_pot_here" (P 191 74 87) (.val (.con (.int 21) 0 (P 191 89 91)) .nil)) (P 191 64 92)) (P 191 59 92)))] 0 (P 191 33 93) (P 191 4 93))
def t37_1 : T :=
   (.par [⟨3, "_law_one", (P 192 4 12)⟩, ⟨4, "_law_other", (P 192 14 24)⟩] 0 (P 192 4 24) [(.v (.call 36 "_law_even" (P 192 28 37) (.val (.bin (.bin (.lst (.cons (.con (.int 0) 0 (P 192 39 40)) .nil) (P 192 38 41)) .Mult (.bin (.var 2 "_law_many" (P 192 45 54)) .Sub (.con (.int 1) 0 (P 192 57 58)) (P 192 45 58)) (P 192 38 59)) .Add (.lst (.cons (.con (.int 1) 0 (P 192 63 64)) .nil) (P 192 62 65)) (P 192 38 65)) .nil) (P 192 28 66))), (.v (.call 36 "_law_even" (P 192 68 77) (.val (.bin (.bin (.lst (.cons (.con (.int 1) 0 (P 192 79 80)) .nil) (P 192 78 81)) .Mult (.bin (.var 2 "_law_many" (P 192 85 94)) .Sub (.con (.int 1) 0 (P 192 97 98)) (P 192 85 98)) (P 192 78 99)) .Add (.lst (.cons (.con (.int 0) 0 (P 192 103 104)) .nil) (P 192 102 105)) (P 192 78 105)) .nil) (P 192 68 106)))] 0 (P 192 27 107) (P 192 4 107))
def t37_2 : T :=
   (.set ⟨5, "_law_far", (P 193 4 12)⟩ (.v (.call 36 "_law_even" (P 193 15 24) (.val (.bin (.bin (.lst (.cons (.con (.int 1) 0 (P 193 26 27)) .nil) (P 193 25 28)) .Mult (.con (.int 40) 0 (P 193 31 33)) (P 193 25 33)) .Add (.lst (.cons (.con (.int 0) 0 (P 193 37 38)) .nil) (P 193 36 39)) (P 193 25 39)) .nil) (P 193 15 40))) (P 193 4 40))
def t37_3 : T :=
   (.set ⟨6, "_law_told", (P 194 4 13)⟩ (.v (.lst (.cons (.call 20 "is_parting" (P 194 17 27) (.share 1 "_law_table_here" (P 194 28 43) (.val (.tup (.cons (.var 3 "_law_one" (P 194 46 54)) (.cons (.var 4 "_law_other" (P 194 56 66)) .nil)) 0 (P 194 45 67)) .nil)) (P 194 17 68)) (.cons (.call 20 "is_parting" (P 194 70 80) (.share 1 "_law_table_here" (P 194 81 96) (.val (.tup (.cons (.var 3 "_law_one" (P 194 99 107)) (.cons (.var 5 "_law_far" (P 194 109 117)) .nil)) 0 (P 194 98 118)) .nil)) (P 194 70 119)) (.cons (.call 20 "is_parting" (P 194 121 131) (.share 1 "_law_table_here" (P 194 132 147) (.val (.tup (.cons (.var 3 "_law_one" (P 194 150 158)) (.cons (.var 3 "_law_one" (P 194 160 168)) .nil)) 0 (P 194 149 169)) .nil)) (P 194 121 170)) .nil))) (P 194 16 171))) (P 194 4 171))
def t37_4 : T :=
   (.ret (.cmp (.var 6 "_law_told" (P 195 11 20)) .Eq (.lst (.cons (.con (.bool true) 0 (P 195 25 29)) (.cons (.con (.bool false) 0 (P 195 31 36)) (.cons (.con (.bool false) 0 (P 195 38 43)) .nil))) (P 195 24 44)) (P 195 11 44)) (P 195 4 44))
def b37 : Ts :=
   (.cons t37_0 (.cons t37_1 (.cons t37_2 (.cons t37_3 (.cons t37_4 .nil)))))
def d37 : DI := ⟨"_law_long_right", "_law_long_right", none, true, ["_law_pot_here"], ["_law_pot_here", "_law_table_here", "_law_many", "_law_one", "_law_other", "_law_far", "_law_told"], defArgs (topS 42), ⟨.function, [("_law_pot_here", .local), ("_law_table_here", .local), ("_law_many", .local), ("_law_one", .local), ("_law_other", .local), ("_law_far", .local), ("_law_told", .local), ("Table", .globalImplicit), ("_law_draw", .globalImplicit), ("_law_even", .globalImplicit), ("is_parting", .globalImplicit)], false, false, []⟩, b37⟩
/-- _law_judged_right -/
def c38_0 : E :=
   (.comp (.call 34 "_law_two" (P 197 17 25) (.share 0 "_law_pot_here" (P 197 26 39) (.share 2 "_law_rows" (P 197 41 50) .nil)) (P 197 17 51)) (.nm 9 "_law_turn" (P 197 56 65)) (.rng (.con (.int 4) 0 (P 197 75 76)) (P 197 69 74) (P 197 69 77)) .nil ⟨.function, [(".0", .local), ("_law_turn", .local), ("_law_two", .globalImplicit), ("_law_pot_here", .free), ("_law_rows", .free)], false, false, []⟩ [("_law_turn", 9)] (P 197 16 78))
def t38_0 : T :=
   (.set ⟨4, "_law_some", (P 197 4 13)⟩ (.v (.bin c38_0 .Add (.lst (.cons (.con .none 0 (P 197 82 86)) (.cons (.con (.int 0) 0 (P 197 88 89)) (.cons (.tup .nil 0 (P 197 91 93)) (.cons (.tup (.cons (.con (.int 0) 0 (P 197 96 97)) (.cons (.con (.int 0) 0 (P 197 99 100)) .nil)) 0 (P 197 95 101)) (.cons (.lst (.cons (.con (.int 0) 0 (P 197 104 105)) (.cons (.con (.int 0) 0 (P 197 107 108)) .nil)) (P 197 103 109)) (.cons (.tup (.cons (.tup (.cons (.con (.int 0) 0 (P 197 113 114)) (.cons (.con (.int 0) 0 (P 197 116 117)) .nil)) 0 (P 197 112 118)) (.cons (.con (.int 0) 0 (P 197 120 121)) .nil)) 0 (P 197 111 122)) (.cons (.tup (.cons (.con (.int 0) 0 (P 197 125 126)) (.cons (.tup (.cons (.con (.int 0) 0 (P 197 129 130)) (.cons (.con (.int 0) 0 (P 197 132 133)) .nil)) 0 (P 197 128 134)) (.cons (.con (.int 0) 0 (P 197 136 137)) .nil))) 0 (P 197 124 138)) (.cons (.con (.str "00") 0 (P 197 140 144)) .nil)))))))) (P 197 81 145)) (P 197 16 145))) (P 197 4 145))
def u38_0 : T :=
   (.asg (.tp (.cons (.nm 5 "_law_one" (P 199 8 16)) (.cons (.nm 6 "_law_other" (P 199 18 28)) .nil)) 0 (P 199 8 28)) (.var 3 "_law_told" (P 199 31 40)) (P 199 8 40))
def u38_1 : T :=
   (.set ⟨4, "_law_some", (P 200 8 17)⟩ (.v (.bin (.var 4 "_law_some" (P 200 20 29)) .Add (.lst (.cons (.var 3 "_law_told" (P 200 33 42)) .nil) (P 200 32 43)) (P 200 20 43))) (P 200 8 43))
def u38_2 : T :=
   (.set ⟨4, "_law_some", (P 202 12 21)⟩ (.v (.bin (.var 4 "_law_some" (P 202 24 33)) .Add (.lst (.cons (.tup (.cons (.var 6 "_law_other" (P 202 38 48)) (.cons (.var 5 "_law_one" (P 202 50 58)) .nil)) 0 (P 202 37 59)) (.cons (.tup (.cons (.tup (.cons (.var 5 "_law_one" (P 202 63 71)) (.cons (.con (.int 0) 0 (P 202 73 74)) .nil)) 0 (P 202 62 75)) (.cons (.var 6 "_law_other" (P 202 77 87)) .nil)) 0 (P 202 61 88)) (.cons (.tup (.cons (.var 5 "_law_one" (P 202 91 99)) (.cons (.var 5 "_law_one" (P 202 101 109)) .nil)) 0 (P 202 90 110)) (.cons (.lst (.cons (.var 5 "_law_one" (P 202 113 121)) (.cons (.var 6 "_law_other" (P 202 123 133)) .nil)) (P 202 112 134)) (.cons (.tup (.cons (.var 5 "_law_one" (P 202 137 145)) (.cons (.con .none 0 (P 202 147 151)) .nil)) 0 (P 202 136 152)) (.cons (.tup (.cons (.var 3 "_law_told" (P 202 155 164)) (.cons (.var 3 "_law_told" (P 202 166 175)) .nil)) 0 (P 202 154 176)) .nil)))))) (P 202 36 177)) (P 202 24 177))) (P 202 12 177))
def u38_3 : T :=
   (.set ⟨4, "_law_some", (P 203 12 21)⟩ (.v (.bin (.var 4 "_law_some" (P 203 24 33)) .Add (.lst (.cons (.tup (.cons (.call 35 "_law_truths" (P 203 38 49) (.share 5 "_law_one" (P 203 50 58) .nil) (P 203 38 59)) (.cons (.var 6 "_law_other" (P 203 61 71)) .nil)) 0 (P 203 37 72)) (.cons (.tup (.cons (.var 5 "_law_one" (P 203 75 83)) (.cons (.call 35 "_law_truths" (P 203 85 96) (.share 6 "_law_other" (P 203 97 107) .nil) (P 203 85 108)) .nil)) 0 (P 203 74 109)) .nil)) (P 203 36 110)) (P 203 24 110))) (P 203 12 110))
def s38_0 : Ts :=
   (.cons u38_2 (.cons u38_3 .nil))
def u38_4 : T :=
   (.iff (.cmp (.bin (.bi1 .len (P 201 11 14) (.call 29 "_law_values" (P 201 15 26) (.share 5 "_law_one" (P 201 27 35) .nil) (P 201 15 36)) (P 201 11 37)) .Add (.bi1 .len (P 201 40 43) (.call 29 "_law_values" (P 201 44 55) (.share 6 "_law_other" (P 201 56 66) .nil) (P 201 44 67)) (P 201 40 68)) (P 201 11 68)) .Lt (.con (.int 11) 0 (P 201 71 73)) (P 201 11 73)) s38_0 .nil ⟨201, 8, 203, 110⟩)
def s38_1 : Ts :=
   (.cons u38_0 (.cons u38_1 (.cons u38_4 .nil)))
def t38_1 : T :=
   (.iff (.cmp (.var 3 "_law_told" (P 198 7 16)) .IsNot (.con .none 0 (P 198 24 28)) (P 198 7 28)) s38_1 .nil ⟨198, 4, 203, 110⟩)
def u38_5 : T :=
   (.set ⟨8, "_law_due", (P 205 8 16)⟩ (.v (.call 32 "_law_is_parting" (P 205 19 34) (.share 2 "_law_rows" (P 205 35 44) (.share 7 "_law_thing" (P 205 46 56) .nil)) (P 205 19 57))) (P 205 8 57))
def u38_6 : T :=
   (.ret (.con (.bool false) 0 (P 207 19 24)) (P 207 12 24))
def s38_2 : Ts :=
   (.cons u38_6 .nil)
def u38_7 : T :=
   (.iff (.cmp (.lst (.cons (.call 20 "is_parting" (P 206 12 22) (.share 1 "_law_table_here" (P 206 23 38) (.share 7 "_law_thing" (P 206 40 50) .nil)) (P 206 12 51)) (.cons (.callK 20 "is_parting" (P 206 53 63) (.cons "value" (.var 7 "_law_thing" (P 206 70 80)) (P 206 64 80) (.cons "table" (.var 1 "_law_table_here" (P 206 88 103)) (P 206 82 103) .nil)) 2 [1, 0] (P 206 53 104)) .nil)) (P 206 11 105)) .NotEq (.lst (.cons (.var 8 "_law_due" (P 206 110 118)) (.cons (.var 8 "_law_due" (P 206 120 128)) .nil)) (P 206 109 129)) (P 206 11 129)) s38_2 .nil ⟨206, 8, 207, 24⟩)
def s38_3 : Ts :=
   (.cons u38_5 (.cons u38_7 .nil))
def t38_2 : T :=
   (.for (.nm 7 "_law_thing" (P 204 8 18)) (.e (.var 4 "_law_some" (P 204 22 31))) s38_3 ⟨204, 4, 207, 24⟩)
def t38_3 : T :=
   (.ret (.con (.bool true) 0 (P 208 11 15)) (P 208 4 15))
def b38 : Ts :=
   (.cons t38_0 (.cons t38_1 (.cons t38_2 (.cons t38_3 .nil))))
def d38 : DI := ⟨"_law_judged_right", "_law_judged_right", none, true, ["_law_pot_here", "_law_table_here", "_law_rows", "_law_told"], ["_law_pot_here", "_law_table_here", "_law_rows", "_law_told", "_law_some", "_law_one", "_law_other", "_law_thing", "_law_due", "_law_turn"], defArgs (topS 43), ⟨.function, [("_law_pot_here", .cell), ("_law_table_here", .local), ("_law_rows", .cell), ("_law_told", .local), ("_law_some", .local), ("_law_one", .local), ("_law_other", .local), ("_law_thing", .local), ("_law_due", .local), ("range", .globalImplicit), ("len", .globalImplicit), ("_law_values", .globalImplicit), ("_law_truths", .globalImplicit), ("_law_is_parting", .globalImplicit), ("is_parting", .globalImplicit)], false, false, [("fast", .str "_law_pot_here"), ("fast", .str "_law_table_here"), ("fast", .str "_law_rows"), ("fast", .str "_law_told"), ("fast", .str "_law_turn"), ("fast", .str "_law_some"), ("fast", .str "_law_one"), ("fast", .str "_law_other"), ("fast", .str "_law_thing"), ("fast", .str "_law_due")]⟩, b38⟩
/-- _law_right -/
def t39_0 : T :=
   (.set ⟨1, "_law_rows", (P 210 4 13)⟩ (.v (.call 27 "_law_table" (P 210 16 26) (.share 0 "_law_pot_here" (P 210 27 40) .nil) (P 210 16 41))) (P 210 4 41))
def t39_1 : T :=
   (.par [⟨2, "_law_table_here", (P 211 4 19)⟩, ⟨3, "_law_is_so", (P 211 21 31)⟩] 0 (P 211 4 31) [(.v (.new 0 3 "Table" (P 211 35 40) (.share 1 "_law_rows" (P 211 41 50) .nil) (P 211 35 51))), (.v (.call 28 "_law_melts" (P 211 53 63) (.share 1 "_law_rows" (P 211 64 73) .nil) (P 211 53 74)))] 0 (P 211 34 75) (P 211 4 75))
def t39_2 : T :=
   (.set ⟨4, "_law_told", (P 212 4 13)⟩ (.v (.call 17 "parting" (P 212 16 23) (.share 2 "_law_table_here" (P 212 24 39) .nil) (P 212 16 40))) (P 212 4 40))
def u39_0 : T :=
   (.ret (.con (.bool false) 0 (P 214 15 20)) (P 214 8 20))
def s39_0 : Ts :=
   (.cons u39_0 .nil)
def t39_3 : T :=
   (.iff (.cmp (.lst (.cons (.call 19 "melts" (P 213 8 13) (.share 2 "_law_table_here" (P 213 14 29) .nil) (P 213 8 30)) (.cons (.callK 19 "melts" (P 213 32 37) (.cons "table" (.var 2 "_law_table_here" (P 213 44 59)) (P 213 38 59) .nil) 1 [0] (P 213 32 60)) .nil)) (P 213 7 61)) .NotEq (.lst (.cons (.var 3 "_law_is_so" (P 213 66 76)) (.cons (.var 3 "_law_is_so" (P 213 78 88)) .nil)) (P 213 65 89)) (P 213 7 89)) s39_0 .nil ⟨213, 4, 214, 20⟩)
def u39_1 : T :=
   (.ret (.con (.bool false) 0 (P 216 15 20)) (P 216 8 20))
def s39_1 : Ts :=
   (.cons u39_1 .nil)
def t39_4 : T :=
   (.iff (.bop .Or (.cmp (.cmp (.var 4 "_law_told" (P 215 8 17)) .Is (.con .none 0 (P 215 21 25)) (P 215 8 25)) .NotEq (.var 3 "_law_is_so" (P 215 30 40)) (P 215 7 40)) (.cons (.cmp (.cmp (.callK 17 "parting" (P 215 45 52) (.cons "table" (.var 2 "_law_table_here" (P 215 59 74)) (P 215 53 74) .nil) 1 [0] (P 215 45 75)) .Is (.con .none 0 (P 215 79 83)) (P 215 45 83)) .NotEq (.var 3 "_law_is_so" (P 215 88 98)) (P 215 44 98)) .nil) (P 215 7 98)) s39_1 .nil ⟨215, 4, 216, 20⟩)
def u39_2 : T :=
   (.ret (.con (.bool false) 0 (P 218 15 20)) (P 218 8 20))
def s39_2 : Ts :=
   (.cons u39_2 .nil)
def t39_5 : T :=
   (.iff (.bop .And (.cmp (.var 4 "_law_told" (P 217 7 16)) .IsNot (.con .none 0 (P 217 24 28)) (P 217 7 28)) (.cons (.bop .Or (.una .Not (.call 32 "_law_is_parting" (P 217 38 53) (.share 1 "_law_rows" (P 217 54 63) (.share 4 "_law_told" (P 217 65 74) .nil)) (P 217 38 75)) (P 217 34 75)) (.cons (.cmp (.call 15 "result" (P 217 79 85) (.share 2 "_law_table_here" (P 217 86 101) (.val (.sub (.var 4 "_law_told" (P 217 103 112)) (.con (.int 0) 0 (P 217 113 114)) (P 217 103 115)) .nil)) (P 217 79 116)) .Eq (.call 15 "result" (P 217 120 126) (.share 2 "_law_table_here" (P 217 127 142) (.val (.sub (.var 4 "_law_told" (P 217 144 153)) (.con (.int 1) 0 (P 217 154 155)) (P 217 144 156)) .nil)) (P 217 120 157)) (P 217 79 157)) .nil) (P 217 34 157)) .nil) (P 217 7 158)) s39_2 .nil ⟨217, 4, 218, 20⟩)
def u39_3 : T :=
   (.ret (.con (.bool false) 0 (P 220 15 20)) (P 220 8 20))
def s39_3 : Ts :=
   (.cons u39_3 .nil)
def t39_6 : T :=
   (.iff (.bop .Or (.una .Not (.call 38 "_law_judged_right" (P 219 11 28) (.share 0 "_law_pot_here" (P 219 29 42) (.share 2 "_law_table_here" (P 219 44 59) (.share 1 "_law_rows" (P 219 61 70) (.share 4 "_law_told" (P 219 72 81) .nil)))) (P 219 11 82)) (P 219 7 82)) (.cons (.una .Not (.call 37 "_law_long_right" (P 219 90 105) (.share 0 "_law_pot_here" (P 219 106 119) .nil) (P 219 90 120)) (P 219 86 120)) .nil) (P 219 7 120)) s39_3 .nil ⟨219, 4, 220, 20⟩)
def u39_4 : T :=
   (.asg (.tp (.cons (.nm 6 "_law_one" (P 222 8 16)) (.cons (.nm 7 "_law_other" (P 222 18 28)) .nil)) 0 (P 222 8 28)) (.call 34 "_law_two" (P 222 31 39) (.share 0 "_law_pot_here" (P 222 40 53) (.share 1 "_law_rows" (P 222 55 64) .nil)) (P 222 31 65)) (P 222 8 65))
def u39_5 : T :=
   (.ret (.con (.bool false) 0 (P 224 19 24)) (P 224 12 24))
def s39_4 : Ts :=
   (.cons u39_5 .nil)
def u39_6 : T :=
   (.iff (.bop .And (.var 3 "_law_is_so" (P 223 11 21)) (.cons (.cmp (.call 15 "result" (P 223 26 32) (.share 2 "_law_table_here" (P 223 33 48) (.share 6 "_law_one" (P 223 50 58) .nil)) (P 223 26 59)) .NotEq (.call 15 "result" (P 223 63 69) (.share 2 "_law_table_here" (P 223 70 85) (.share 7 "_law_other" (P 223 87 97) .nil)) (P 223 63 98)) (P 223 26 98)) .nil) (P 223 11 98)) s39_4 .nil ⟨223, 8, 224, 24⟩)
def s39_5 : Ts :=
   (.cons u39_4 (.cons u39_6 .nil))
def t39_7 : T :=
   (.for (.nm 5 "_law_turn" (P 221 8 17)) (.rng (.con (.int 4) 0 (P 221 27 28)) (P 221 21 26) (P 221 21 29)) s39_5 ⟨221, 4, 224, 24⟩)
def t39_8 : T :=
   (.set ⟨8, "_law_names", (P 225 4 14)⟩ (.v (.call 24 "_law_mixed" (P 225 17 27) (.share 0 "_law_pot_here" (P 225 28 41) (.val (.lrng (P 225 43 47) (P 225 48 53) (.bi1 .len (P 225 54 57) (.var 1 "_law_rows" (P 225 58 67)) (P 225 54 68)) (P 225 48 69) (P 225 43 70)) .nil)) (P 225 17 71))) (P 225 4 71))
def c39_0 : E :=
   (.comp (.sub (.var 8 "_law_names" (P 226 20 30)) (.sub (.sub (.var 1 "_law_rows" (P 226 31 40)) (.idx (.var 8 "_law_names" (P 226 41 51)) (P 226 41 57) (.var 10 "_law_x" (P 226 58 64)) (P 226 41 65)) (P 226 31 66)) (.idx (.var 8 "_law_names" (P 226 67 77)) (P 226 67 83) (.var 11 "_law_y" (P 226 84 90)) (P 226 67 91)) (P 226 31 92)) (P 226 20 93)) (.nm 11 "_law_y" (P 226 98 104)) (.rng (.bi1 .len (P 226 114 117) (.var 1 "_law_rows" (P 226 118 127)) (P 226 114 128)) (P 226 108 113) (P 226 108 129)) .nil ⟨.function, [(".0", .local), ("_law_y", .local), ("_law_names", .free), ("_law_rows", .free), ("_law_x", .free)], false, false, []⟩ [("_law_y", 11)] (P 226 19 130))
def c39_1 : E :=
   (.comp c39_0 (.nm 10 "_law_x" (P 226 135 141)) (.rng (.bi1 .len (P 226 151 154) (.var 1 "_law_rows" (P 226 155 164)) (P 226 151 165)) (P 226 145 150) (P 226 145 166)) .nil ⟨.function, [(".0", .local), ("_law_x", .cell), ("range", .globalImplicit), ("len", .globalImplicit), ("_law_names", .free), ("_law_rows", .free)], false, false, []⟩ [("_law_x", 10)] (P 226 18 167))
def t39_9 : T :=
   (.set ⟨9, "_law_turned", (P 226 4 15)⟩ (.v c39_1) (P 226 4 167))
def t39_10 : T :=
   (.ret (.bop .And (.cmp (.call 19 "melts" (P 227 11 16) (.val (.new 0 3 "Table" (P 227 17 22) (.share 9 "_law_turned" (P 227 23 34) .nil) (P 227 17 35)) .nil) (P 227 11 36)) .Eq (.var 3 "_law_is_so" (P 227 40 50)) (P 227 11 50)) (.cons (.eqO 0 7 (.var 2 "_law_table_here" (P 227 55 70)) (.new 0 3 "Table" (P 227 74 79) (.share 1 "_law_rows" (P 227 80 89) .nil) (P 227 74 90)) (P 227 55 90)) .nil) (P 227 11 90)) (P 227 4 90))
def b39 : Ts :=
   (.cons t39_0 (.cons t39_1 (.cons t39_2 (.cons t39_3 (.cons t39_4 (.cons t39_5 (.cons t39_6 (.cons t39_7 (.cons t39_8 (.cons t39_9 (.cons t39_10 .nil)))))))))))
def d39 : DI := ⟨"_law_right", "_law_right", none, true, ["_law_pot_here"], ["_law_pot_here", "_law_rows", "_law_table_here", "_law_is_so", "_law_told", "_law_turn", "_law_one", "_law_other", "_law_names", "_law_turned", "_law_x", "_law_y"], defArgs (topS 44), ⟨.function, [("_law_pot_here", .local), ("_law_rows", .cell), ("_law_table_here", .local), ("_law_is_so", .local), ("_law_told", .local), ("_law_turn", .local), ("_law_one", .local), ("_law_other", .local), ("_law_names", .cell), ("_law_turned", .local), ("_law_table", .globalImplicit), ("Table", .globalImplicit), ("_law_melts", .globalImplicit), ("parting", .globalImplicit), ("melts", .globalImplicit), ("_law_is_parting", .globalImplicit), ("result", .globalImplicit), ("_law_judged_right", .globalImplicit), ("_law_long_right", .globalImplicit), ("range", .globalImplicit), ("_law_two", .globalImplicit), ("_law_mixed", .globalImplicit), ("list", .globalImplicit), ("len", .globalImplicit)], false, false, [("fast", .str "_law_pot_here"), ("fast", .str "_law_rows"), ("fast", .str "_law_table_here"), ("fast", .str "_law_is_so"), ("fast", .str "_law_told"), ("fast", .str "_law_turn"), ("fast", .str "_law_one"), ("fast", .str "_law_other"), ("fast", .str "_law_names"), ("fast", .str "_law_x"), ("fast", .str "_law_y"), ("fast", .str "_law_turned")]⟩, b39⟩
/-- law -/
def c40_0 : E :=
   (.comp (.callT 39 "_law_right" (P 229 16 26) 21 "_law_pot" (P 229 27 35) (.share 0 "_law_script" (P 229 36 47) (.share 1 "_law_k" (P 229 49 55) .nil)) (P 229 27 56) (P 229 16 57)) (.nm 1 "_law_k" (P 229 62 68)) (.rng (.bi2 .max2 (P 229 78 81) (.con (.int 1) 0 (P 229 82 83)) (.bi2 .min2 (P 229 85 88) (.con (.int 2) 0 (P 229 89 90)) (.bi1 .len (P 229 92 95) (.var 0 "_law_script" (P 229 96 107)) (P 229 92 108)) (P 229 85 109)) (P 229 78 110)) (P 229 72 77) (P 229 72 111)) .nil ⟨.function, [(".0", .local), ("_law_k", .local), ("_law_right", .globalImplicit), ("_law_pot", .globalImplicit), ("_law_script", .free)], false, false, []⟩ [("_law_k", 1)] (P 229 15 112))
def t40_0 : T :=
   (.ret (.bi1 .all (P 229 11 14) c40_0 (P 229 11 113)) (P 229 4 113))
def b40 : Ts :=
   (.cons t40_0 .nil)
def d40 : DI := ⟨"law", "law", none, true, ["_law_script"], ["_law_script", "_law_k"], defArgs (topS 45), ⟨.function, [("_law_script", .cell), ("all", .globalImplicit), ("range", .globalImplicit), ("max", .globalImplicit), ("min", .globalImplicit), ("len", .globalImplicit)], false, false, [("fast", .str "_law_script"), ("fast", .str "_law_k")]⟩, b40⟩
theorem same0 : b0.py = defBody (topS 1) := by kernel_rfl
theorem same1 : b1.py = defBody (topS 2) := by kernel_rfl
theorem same2 : b2.py = defBody (topS 11) := by kernel_rfl
theorem same3 : b3.py = defBody (inClass (topS 12) 0) := by kernel_rfl
theorem same4 : b4.py = defBody (inClass (topS 12) 1) := by kernel_rfl
theorem same5 : b5.py = defBody (inClass (topS 12) 2) := by kernel_rfl
theorem same6 : b6.py = defBody (inClass (topS 12) 3) := by kernel_rfl
theorem same7 : b7.py = defBody (inClass (topS 12) 4) := by kernel_rfl
theorem same8 : b8.py = defBody (inClass (topS 12) 5) := by kernel_rfl
theorem same9 : b9.py = defBody (topS 13) := by kernel_rfl
theorem same10 : b10.py = defBody (topS 14) := by kernel_rfl
theorem same11 : b11.py = defBody (topS 15) := by kernel_rfl
theorem same12 : b12.py = defBody (topS 16) := by kernel_rfl
theorem same13 : b13.py = defBody (topS 17) := by kernel_rfl
theorem same14 : b14.py = defBody (topS 18) := by kernel_rfl
theorem same15 : b15.py = defBody (topS 19) := by kernel_rfl
theorem same16 : b16.py = defBody (topS 20) := by kernel_rfl
theorem same17 : b17.py = defBody (topS 21) := by kernel_rfl
theorem same18 : b18.py = defBody (topS 22) := by kernel_rfl
theorem same19 : b19.py = defBody (topS 23) := by kernel_rfl
theorem same20 : b20.py = defBody (topS 24) := by kernel_rfl
theorem same21 : b21.py = defBody (topS 26) := by kernel_rfl
theorem same22 : b22.py = defBody (topS 27) := by kernel_rfl
theorem same23 : b23.py = defBody (topS 28) := by kernel_rfl
theorem same24 : b24.py = defBody (topS 29) := by kernel_rfl
theorem same25 : b25.py = defBody (topS 30) := by kernel_rfl
theorem same26 : b26.py = defBody (topS 31) := by kernel_rfl
theorem same27 : b27.py = defBody (topS 32) := by kernel_rfl
theorem same28 : b28.py = defBody (topS 33) := by kernel_rfl
theorem same29 : b29.py = defBody (topS 34) := by kernel_rfl
theorem same30 : b30.py = defBody (topS 35) := by kernel_rfl
theorem same31 : b31.py = defBody (topS 36) := by kernel_rfl
theorem same32 : b32.py = defBody (topS 37) := by kernel_rfl
theorem same33 : b33.py = defBody (topS 38) := by kernel_rfl
theorem same34 : b34.py = defBody (topS 39) := by kernel_rfl
theorem same35 : b35.py = defBody (topS 40) := by kernel_rfl
theorem same36 : b36.py = defBody (topS 41) := by kernel_rfl
theorem same37 : b37.py = defBody (topS 42) := by kernel_rfl
theorem same38 : b38.py = defBody (topS 43) := by kernel_rfl
theorem same39 : b39.py = defBody (topS 44) := by kernel_rfl
theorem same40 : b40.py = defBody (topS 45) := by kernel_rfl
def Pr : Pg := ⟨[d0, d1, d2, d3, d4, d5, d6, d7, d8, d9, d10, d11, d12, d13, d14, d15, d16, d17, d18, d19, d20, d21, d22, d23, d24, d25, d26, d27, d28, d29, d30, d31, d32, d33, d34, d35, d36, d37, d38, d39, d40], [("MOST_VALUES", .int 7), ("MOST_IN_MELT", .int 40)], [("Table", 3, ["own_rows"])], [(20, ["value", "table"], [1, 0]), (19, ["table"], [0]), (17, ["table"], [0])], [(0, 6)], [(0, 7)], [(0, "Table")]⟩
theorem bn0 : BN d0 := fun _ _ _ _ _ _ us hl => match us, hl with | [_], _ => rfl
theorem bn1 : BN d1 := fun _ _ _ _ _ _ us hl => match us, hl with | [_], _ => rfl
theorem bn2 : BN d2 := fun _ _ _ _ _ _ us hl => match us, hl with | [_, _], _ => rfl
theorem bn3 : BN d3 := fun _ _ _ _ _ _ us hl => match us, hl with | [_, _], _ => rfl
theorem bn4 : BN d4 := fun _ _ _ _ _ _ us hl => match us, hl with | [_], _ => rfl
theorem bn5 : BN d5 := fun _ _ _ _ _ _ us hl => match us, hl with | [_, _, _], _ => rfl
theorem bn6 : BN d6 := fun _ _ _ _ _ _ us hl => match us, hl with | [_], _ => rfl
theorem bn7 : BN d7 := fun _ _ _ _ _ _ us hl => match us, hl with | [_, _], _ => rfl
theorem bn8 : BN d8 := fun _ _ _ _ _ _ us hl => match us, hl with | [_], _ => rfl
theorem bn9 : BN d9 := fun _ _ _ _ _ _ us hl => match us, hl with | [_, _], _ => rfl
theorem bn10 : BN d10 := fun _ _ _ _ _ _ us hl => match us, hl with | [_, _], _ => rfl
theorem bn11 : BN d11 := fun _ _ _ _ _ _ us hl => match us, hl with | [_], _ => rfl
theorem bn12 : BN d12 := fun _ _ _ _ _ _ us hl => match us, hl with | [_], _ => rfl
theorem bn13 : BN d13 := fun _ _ _ _ _ _ us hl => match us, hl with | [_, _], _ => rfl
theorem bn14 : BN d14 := fun _ _ _ _ _ _ us hl => match us, hl with | [_, _], _ => rfl
theorem bn15 : BN d15 := fun _ _ _ _ _ _ us hl => match us, hl with | [_, _], _ => rfl
theorem bn16 : BN d16 := fun _ _ _ _ _ _ us hl => match us, hl with | [_], _ => rfl
theorem bn17 : BN d17 := fun _ _ _ _ _ _ us hl => match us, hl with | [_], _ => rfl
theorem bn18 : BN d18 := fun _ _ _ _ _ _ us hl => match us, hl with | [_], _ => rfl
theorem bn19 : BN d19 := fun _ _ _ _ _ _ us hl => match us, hl with | [_], _ => rfl
theorem bn20 : BN d20 := fun _ _ _ _ _ _ us hl => match us, hl with | [_, _], _ => rfl
theorem bn21 : BN d21 := fun _ _ _ _ _ _ us hl => match us, hl with | [_, _], _ => rfl
theorem bn22 : BN d22 := fun _ _ _ _ _ _ us hl => match us, hl with | [_, _], _ => rfl
theorem bn23 : BN d23 := fun _ _ _ _ _ _ us hl => match us, hl with | [_, _], _ => rfl
theorem bn24 : BN d24 := fun _ _ _ _ _ _ us hl => match us, hl with | [_, _], _ => rfl
theorem bn25 : BN d25 := fun _ _ _ _ _ _ us hl => match us, hl with | [_], _ => rfl
theorem bn26 : BN d26 := fun _ _ _ _ _ _ us hl => match us, hl with | [_], _ => rfl
theorem bn27 : BN d27 := fun _ _ _ _ _ _ us hl => match us, hl with | [_], _ => rfl
theorem bn28 : BN d28 := fun _ _ _ _ _ _ us hl => match us, hl with | [_], _ => rfl
theorem bn29 : BN d29 := fun _ _ _ _ _ _ us hl => match us, hl with | [_], _ => rfl
theorem bn30 : BN d30 := fun _ _ _ _ _ _ us hl => match us, hl with | [_, _], _ => rfl
theorem bn31 : BN d31 := fun _ _ _ _ _ _ us hl => match us, hl with | [_, _], _ => rfl
theorem bn32 : BN d32 := fun _ _ _ _ _ _ us hl => match us, hl with | [_, _], _ => rfl
theorem bn33 : BN d33 := fun _ _ _ _ _ _ us hl => match us, hl with | [_, _], _ => rfl
theorem bn34 : BN d34 := fun _ _ _ _ _ _ us hl => match us, hl with | [_, _], _ => rfl
theorem bn35 : BN d35 := fun _ _ _ _ _ _ us hl => match us, hl with | [_], _ => rfl
theorem bn36 : BN d36 := fun _ _ _ _ _ _ us hl => match us, hl with | [_], _ => rfl
theorem bn37 : BN d37 := fun _ _ _ _ _ _ us hl => match us, hl with | [_], _ => rfl
theorem bn38 : BN d38 := fun _ _ _ _ _ _ us hl => match us, hl with | [_, _, _, _], _ => rfl
theorem bn39 : BN d39 := fun _ _ _ _ _ _ us hl => match us, hl with | [_], _ => rfl
theorem bn40 : BN d40 := fun _ _ _ _ _ _ us hl => match us, hl with | [_], _ => rfl
theorem bnAll : ∀ d ∈ Pr.defs, BN d := List.forall_mem_cons.mpr ⟨bn0, List.forall_mem_cons.mpr ⟨bn1, List.forall_mem_cons.mpr ⟨bn2, List.forall_mem_cons.mpr ⟨bn3, List.forall_mem_cons.mpr ⟨bn4, List.forall_mem_cons.mpr ⟨bn5, List.forall_mem_cons.mpr ⟨bn6, List.forall_mem_cons.mpr ⟨bn7, List.forall_mem_cons.mpr ⟨bn8, List.forall_mem_cons.mpr ⟨bn9, List.forall_mem_cons.mpr ⟨bn10, List.forall_mem_cons.mpr ⟨bn11, List.forall_mem_cons.mpr ⟨bn12, List.forall_mem_cons.mpr ⟨bn13, List.forall_mem_cons.mpr ⟨bn14, List.forall_mem_cons.mpr ⟨bn15, List.forall_mem_cons.mpr ⟨bn16, List.forall_mem_cons.mpr ⟨bn17, List.forall_mem_cons.mpr ⟨bn18, List.forall_mem_cons.mpr ⟨bn19, List.forall_mem_cons.mpr ⟨bn20, List.forall_mem_cons.mpr ⟨bn21, List.forall_mem_cons.mpr ⟨bn22, List.forall_mem_cons.mpr ⟨bn23, List.forall_mem_cons.mpr ⟨bn24, List.forall_mem_cons.mpr ⟨bn25, List.forall_mem_cons.mpr ⟨bn26, List.forall_mem_cons.mpr ⟨bn27, List.forall_mem_cons.mpr ⟨bn28, List.forall_mem_cons.mpr ⟨bn29, List.forall_mem_cons.mpr ⟨bn30, List.forall_mem_cons.mpr ⟨bn31, List.forall_mem_cons.mpr ⟨bn32, List.forall_mem_cons.mpr ⟨bn33, List.forall_mem_cons.mpr ⟨bn34, List.forall_mem_cons.mpr ⟨bn35, List.forall_mem_cons.mpr ⟨bn36, List.forall_mem_cons.mpr ⟨bn37, List.forall_mem_cons.mpr ⟨bn38, List.forall_mem_cons.mpr ⟨bn39, List.forall_mem_cons.mpr ⟨bn40, (fun _ h => by cases h)⟩⟩⟩⟩⟩⟩⟩⟩⟩⟩⟩⟩⟩⟩⟩⟩⟩⟩⟩⟩⟩⟩⟩⟩⟩⟩⟩⟩⟩⟩⟩⟩⟩⟩⟩⟩⟩⟩⟩⟩⟩
theorem kn0 : KN d20 ["value", "table"] [1, 0] := fun _ _ _ _ _ _ us hl => match us, hl with | [_, _], _ => rfl
theorem kn1 : KN d19 ["table"] [0] := fun _ _ _ _ _ _ us hl => match us, hl with | [_], _ => rfl
theorem kn2 : KN d17 ["table"] [0] := fun _ _ _ _ _ _ us hl => match us, hl with | [_], _ => rfl
theorem knAll : ∀ q ∈ Pr.kws, ∀ d, Pr.defs[q.1]? = some d → KN d q.2.1 q.2.2 := List.forall_mem_cons.mpr ⟨fun d e => (by cases e; exact kn0), List.forall_mem_cons.mpr ⟨fun d e => (by cases e; exact kn1), List.forall_mem_cons.mpr ⟨fun d e => (by cases e; exact kn2), (fun _ h => by cases h)⟩⟩⟩
theorem bindOk : BindOk Pr := ⟨fun f d e => bnAll d (List.mem_of_getElem? e), fun f d ks π e hk => knAll _ hk d e⟩
theorem ok_all : Pr.ok = true := by decide +kernel
end Dm.K41

namespace Dm
section
variable {i k : Nat} {x : PySem.Str} {p q : PySem.Pos} {c : PySem.Const} {es : Es} {a b : E} {op : PySem.Operator} {cp : PySem.CmpOp} {bb : Bi} {as : As} {ks : Ks} {π : List Nat} {lo hi : EO}
theorem opn_bv {m : M D} : opn m (.bv i x p) = peek i := rfl
theorem opn_var {m : M D} : opn m (.var i x p) = m := rfl
theorem opn_con {m : M D} : opn m (.con c k p) = m := rfl
theorem opn_glo {m : M D} : opn m (.glo i x p) = m := rfl
theorem opn_tup {m : M D} : opn m (.tup es k p) = m := rfl
theorem opn_lst {m : M D} : opn m (.lst es p) = m := rfl
theorem opn_bin {m : M D} : opn m (.bin a op b p) = m := rfl
theorem opn_sub {m : M D} : opn m (.sub a b p) = m := rfl
theorem opn_att {m : M D} : opn m (.att a k x p) = m := rfl
theorem opn_bi1 {m : M D} : opn m (.bi1 bb p a q) = m := rfl
theorem opn_call {m : M D} : opn m (.call k x p as q) = m := rfl
theorem opn_callK {m : M D} : opn m (.callK k x p ks i π q) = m := rfl
theorem opn_cmp {m : M D} : opn m (.cmp a cp b p) = m := rfl
theorem opn_ss {m : M D} : opn m (.ss p q a p q) = m := rfl
theorem opn_sl {m : M D} : opn m (.sl a lo hi p q) = m := rfl
end
theorem ofO_s {α : Type} {a : α} : ofO (some a) = ret a := rfl
theorem leafD_l {d : D} : OD.leafD (.leaf d) = some d := rfl
theorem tr_b {b : Bool} : D.tr (.bl b) = some b := rfl
theorem itD_l {ds : List D} : itD (.lst ds) = some ds := rfl
theorem itD_t {ds : List D} : itD (.tup ds) = some ds := rfl
theorem bAdd {i j : Int} : binD .Add (.int i) (.int j) = some (.int (i + j)) := rfl
theorem bSub {i j : Int} : binD .Sub (.int i) (.int j) = some (.int (i - j)) := rfl
theorem bMul {i j : Int} (h : -(2 ^ 64) < i ∧ i < 2 ^ 64 ∨ -(2 ^ 64) < j ∧ j < 2 ^ 64) : binD .Mult (.int i) (.int j) = some (.int (i * j)) := if_pos h
theorem bDiv {i j : Int} (h : 0 < j ∧ j < 2 ^ 30) : binD .FloorDiv (.int i) (.int j) = some (.int (i / j)) := if_pos h
theorem bMod {i j : Int} (h : 0 < j) : binD .Mod (.int i) (.int j) = some (.int (i % j)) := if_pos h
theorem bDm {i j : Int} (h : 0 < j ∧ j < 1073741824) : bi2D .divmod (.int i) (.int j) = some (.tup [.int (i / j), .int (i % j)]) := if_pos h
theorem bApp {xs ys : List D} (h : xs.length + ys.length ≤ PySem.sizeLine) : binD .Add (.lst xs) (.lst ys) = some (.lst (xs ++ ys)) := by simp [binD, h]
theorem b1I {i : Int} : bi1D .int (.int i) = some (.int i) := rfl
theorem b1L {xs : List D} : bi1D .len (.lst xs) = some (.int xs.length) := rfl
theorem b1T {xs : List D} : bi1D .len (.tup xs) = some (.int xs.length) := rfl
theorem ix_l {xs : List D} {k : Nat} {d : D} (h : xs[k]? = some d) : ixD (.lst xs) (.int k) = some d := by
  have hk := (List.getElem?_eq_some_iff.mp h).1
  simp [ixD, L2.atI, L2.ixN, hk]
  exact (List.getElem?_eq_some_iff.mp h).2
theorem ix_t {xs : List D} {k : Nat} {d : D} (h : xs[k]? = some d) : ixD (.tup xs) (.int k) = some d := by
  have hk := (List.getElem?_eq_some_iff.mp h).1
  simp [ixD, L2.atI, L2.ixN, hk]
  exact (List.getElem?_eq_some_iff.mp h).2
namespace K41
open PySem L2 Dm
abbrev cl (n : Nat) : CallF := callN Pr 1000 n
abbrev G (n : Nat) : Env := Pr.env 1000 n
variable {n : Nat} {S : List OD}
theorem env_call : (G n).call = cl n := rfl
theorem env_fn : (G n).fn = Pr.fn := rfl
theorem env_wf : (G n).wf = 1000 := rfl
theorem env_glob : (G n).glob = Pr.glob := rfl
theorem call_def {f : Nat} {d : DI} (h : Pr.defs[f]? = some d) (sl : List Slot) (S : List OD) : cl (n + 1) f sl S = runDef (G n) d sl S := by
  unfold cl
  rw [callN]
  simp only [h]
  rfl
theorem call_ok {f : Nat} {d : DI} {sl : List Slot} {S S' : List OD} {o : OD} {L' : List Slot} (h : Pr.defs[f]? = some d) (hn : 1 ≤ n) (hl : sl.length = d.ps.length)
    (hb : execs (G (n - 1)) d.body ⟨sl ++ List.replicate (d.N.length - d.ps.length) .no, S⟩ = some (.rt o, ⟨L', S'⟩)) : cl n f sl S = some (o, S') := by
  obtain ⟨m, rfl⟩ : ∃ m, n = m + 1 := ⟨n - 1, by omega⟩
  rw [call_def h]
  exact r_def hl hb
theorem call_okE {f : Nat} {d : DI} {sl : List Slot} {S S' : List OD} {o : OD} (h : Pr.defs[f]? = some d) (hn : 1 ≤ n) (hl : sl.length = d.ps.length)
    (hb : ∃ L', execs (G (n - 1)) d.body ⟨sl ++ List.replicate (d.N.length - d.ps.length) .no, S⟩ = some (.rt o, ⟨L', S'⟩)) : cl n f sl S = some (o, S') := hb.elim fun _ hb => call_ok h hn hl hb
theorem call_nx {f : Nat} {d : DI} {sl : List Slot} {S S' : List OD} {L' : List Slot} (h : Pr.defs[f]? = some d) (hn : 1 ≤ n) (hl : sl.length = d.ps.length)
    (hb : execs (G (n - 1)) d.body ⟨sl ++ List.replicate (d.N.length - d.ps.length) .no, S⟩ = some (.nx, ⟨L', S'⟩)) : cl n f sl S = some (.leaf .non, S') := by
  obtain ⟨m, rfl⟩ : ∃ m, n = m + 1 := ⟨n - 1, by omega⟩
  rw [call_def h]
  unfold runDef
  rw [if_pos hl]
  simp only [Nat.add_sub_cancel] at hb
  rw [hb]
/-- the pot -/
def Pot (S : List OD) : Prop := ∃ a b : Int, S = [.fl [.int a, .int b]] ∧ 0 ≤ a ∧ 0 ≤ b ∧ b < 2147483647
theorem draw (hn : 1 ≤ n) {m : Int} (h1 : 1 ≤ m) (h2 : m < 1000) (hS : Pot S) : ∃ (r : Nat) (S' : List OD), Pot S' ∧ (r : Int) < m ∧ cl n 22 [.ref 0, .val (.int m)] S = some (.leaf (.int r), S') := by
  obtain ⟨a, b, rfl, ha, hb, hb2⟩ := hS
  by_cases h : 0 < a
  · have hq : 0 ≤ a % m := Int.emod_nonneg _ (by omega)
    have hq2 : a % m < m := Int.emod_lt_of_pos _ (by omega)
    refine ⟨(a % m).toNat, [.fl [.int (a / m), .int b]], ⟨a / m, b, rfl, Int.ediv_nonneg ha (by omega), hb, hb2⟩, by omega, ?_⟩
    refine call_ok (d := d22) rfl hn rfl (L' := [.ref 0, .val (.int m), .val (.int (a % m))]) ?_
    show execs _ (.cons t22_0 _) ⟨[.ref 0, .val (.int m), .no], _⟩ = _
    refine r_rt ?_
    have e1 : bi2D .divmod (.int a) (.int m) = some (.tup [.int (a / m), .int (a % m)]) := bDm (by omega)
    have e2 : (((a % m).toNat : Nat) : Int) = a % m := by omega
    rw [e2]
    simp [t22_0, s22_0, u22_0, u22_1, exec, execs, den, dens, denB, denAs, denKs, denIt, denIfs, denEO, denOE, denOEs, denF, bnd, ret, readVar, peek, peekO, peekL, opn_bv, opn_var, opn_con, opn_glo, opn_tup, opn_lst, opn_bin, opn_sub, opn_att, opn_bi1, opn_call, opn_callK, opn_cmp, opn_ss, opn_sl, cmpM, subM, subB, attM, unaM, setSlot, setSlots, setV, setT, setTs, doCall, mutF, tst, andThen, ofO_s, leafD_l, tr_b, env_call, env_fn, env_wf, env_glob, conD, rtM, itD_l, itD_t, cmpD, cmpI, h, ixD, atI, ixN, e1, setAt]
  · have hq : 0 ≤ (b * 48271 + 20011) % 2147483497 := Int.emod_nonneg _ (by omega)
    have hq2 : (b * 48271 + 20011) % 2147483497 < 2147483497 := Int.emod_lt_of_pos _ (by omega)
    generalize hc : (b * 48271 + 20011) % 2147483497 = c at hq hq2
    have hr : 0 ≤ (c * c) % 2147483549 / 19 % m := Int.emod_nonneg _ (by omega)
    have hr2 : (c * c) % 2147483549 / 19 % m < m := Int.emod_lt_of_pos _ (by omega)
    refine ⟨((c * c) % 2147483549 / 19 % m).toNat, [.fl [.int a, .int c]], ⟨a, c, rfl, ha, hq, by omega⟩, by omega, ?_⟩
    refine call_ok (d := d22) rfl hn rfl (L' := [.ref 0, .val (.int m), .no]) ?_
    show execs _ (.cons t22_0 _) ⟨[.ref 0, .val (.int m), .no], _⟩ = _
    have e1 : binD .Mult (.int b) (.int 48271) = some (.int (b * 48271)) := bMul (by omega)
    have e2 : binD .Mult (.int c) (.int c) = some (.int (c * c)) := bMul (by omega)
    have e3 : binD .Mod (.int ((c * c) % 2147483549 / 19)) (.int m) = some (.int ((c * c) % 2147483549 / 19 % m)) := bMod (by omega)
    have e4 : binD .FloorDiv (.int ((c * c) % 2147483549)) (.int 19) = some (.int ((c * c) % 2147483549 / 19)) := rfl
    have e5 : binD .Mod (.int (c * c)) (.int 2147483549) = some (.int ((c * c) % 2147483549)) := rfl
    have e6 : binD .Mod (.int (b * 48271 + 20011)) (.int 2147483497) = some (.int c) := by rw [← hc]; rfl
    have e7 : binD .Add (.int (b * 48271)) (.int 20011) = some (.int (b * 48271 + 20011)) := rfl
    have e8 : ∀ i, bi1D .int (.int i) = some (.int i) := fun _ => rfl
    have e9 : ((((c * c) % 2147483549 / 19 % m).toNat : Nat) : Int) = (c * c) % 2147483549 / 19 % m := by omega
    rw [e9]
    rw [r_nx (s1 := ⟨[.ref 0, .val (.int m), .no], [.fl [.int a, .int b]]⟩) (by simp [t22_0, exec, execs, den, dens, denB, denAs, denKs, denIt, denIfs, denEO, denOE, denOEs, denF, bnd, ret, readVar, peek, peekO, peekL, opn_bv, opn_var, opn_con, opn_glo, opn_tup, opn_lst, opn_bin, opn_sub, opn_att, opn_bi1, opn_call, opn_callK, opn_cmp, opn_ss, opn_sl, cmpM, subM, subB, attM, unaM, setSlot, setSlots, setV, setT, setTs, doCall, mutF, tst, andThen, ofO_s, leafD_l, tr_b, env_call, env_fn, env_wf, env_glob, conD, rtM, itD_l, itD_t, cmpD, cmpI, h, ixD, atI, ixN])]
    rw [r_nx (s1 := ⟨[.ref 0, .val (.int m), .no], [.fl [.int a, .int c]]⟩) (by simp [t22_1, exec, execs, den, dens, denB, denAs, denKs, denIt, denIfs, denEO, denOE, denOEs, denF, bnd, ret, readVar, peek, peekO, peekL, opn_bv, opn_var, opn_con, opn_glo, opn_tup, opn_lst, opn_bin, opn_sub, opn_att, opn_bi1, opn_call, opn_callK, opn_cmp, opn_ss, opn_sl, cmpM, subM, subB, attM, unaM, setSlot, setSlots, setV, setT, setTs, doCall, mutF, tst, andThen, ofO_s, leafD_l, tr_b, env_call, env_fn, env_wf, env_glob, conD, rtM, itD_l, itD_t, ixD, atI, ixN, e1, e6, e7, e8, setAt])]
    refine r_rt ?_
    simp [t22_2, exec, execs, den, dens, denB, denAs, denKs, denIt, denIfs, denEO, denOE, denOEs, denF, bnd, ret, readVar, peek, peekO, peekL, opn_bv, opn_var, opn_con, opn_glo, opn_tup, opn_lst, opn_bin, opn_sub, opn_att, opn_bi1, opn_call, opn_callK, opn_cmp, opn_ss, opn_sl, cmpM, subM, subB, attM, unaM, setSlot, setSlots, setV, setT, setTs, doCall, mutF, tst, andThen, ofO_s, leafD_l, tr_b, env_call, env_fn, env_wf, env_glob, conD, rtM, itD_l, itD_t, ixD, atI, ixN, e2, e3, e4, e5, e8]
end K41
end Dm

namespace Dm
open PySem L2
/-- good data -/
def gd (k : Nat) (d : D) : Prop := d.py.canLay0 = true ∧ d.py.depth ≤ k
theorem gd_all {k : Nat} : ∀ {ds : List D}, (∀ d ∈ ds, gd k d) → PySem.PyData.canLayAll0 (D.pys ds) = true ∧ PySem.PyData.depthAll (D.pys ds) ≤ k
  | [], _ => by simp [D.pys, PySem.PyData.canLayAll0, PySem.PyData.depthAll]
  | d :: ds, h => by
    obtain ⟨h1, h2⟩ := gd_all fun d hd => h d (List.mem_cons_of_mem _ hd)
    have h3 := h d List.mem_cons_self
    rw [D.pys, PySem.PyData.canLayAll0, PySem.PyData.depthAll, h3.1, h1]
    exact ⟨rfl, Nat.max_le.mpr ⟨h3.2, h2⟩⟩
theorem gd_lst {k : Nat} {ds : List D} (h : ∀ d ∈ ds, gd k d) : gd (k + 1) (.lst ds) := by
  obtain ⟨h1, h2⟩ := gd_all h
  unfold gd
  rw [D.py, PySem.PyData.canLay0, PySem.PyData.depth]
  exact ⟨h1, by omega⟩
theorem gd_tup {k : Nat} {ds : List D} (h : ∀ d ∈ ds, gd k d) : gd (k + 1) (.tup ds) := by
  obtain ⟨h1, h2⟩ := gd_all h
  unfold gd
  rw [D.py, PySem.PyData.canLay0, PySem.PyData.depth]
  exact ⟨h1, by omega⟩
theorem gd.mono {j k : Nat} {d : D} (h : gd j d) (hk : j ≤ k) : gd k d := ⟨h.1, Nat.le_trans h.2 hk⟩
theorem gd_int {k : Nat} {i : Int} : gd k (.int i) := by
  unfold gd; rw [D.py]; exact ⟨by simp [PySem.PyData.canLay0], by simp [PySem.PyData.depth]⟩
theorem gd_bl {k : Nat} {b : Bool} : gd k (.bl b) := by
  unfold gd; rw [D.py]; exact ⟨by simp [PySem.PyData.canLay0], by simp [PySem.PyData.depth]⟩
theorem gd_non {k : Nat} : gd k .non := by
  unfold gd; rw [D.py]; exact ⟨by simp [PySem.PyData.canLay0], by simp [PySem.PyData.depth]⟩
theorem gd.shaped {k : Nat} {d : D} (h : gd k d) (hk : k ≤ 64) : SeqAt.shaped d.py = true := by
  unfold SeqAt.shaped
  rw [h.1]
  have := h.2
  simp
  omega
theorem eqD_gd {a b : D} {j k : Nat} (ha : gd j a) (hb : gd k b) (hj : j ≤ 64) (hk : k ≤ 64) : eqD a b = some (PySem.PyData.eqv a.py b.py) := by
  unfold eqD
  rw [ha.shaped hj, hb.shaped hk]; rfl
theorem eq_nil {k : Nat} {ds : List D} (h : ∀ d ∈ ds, gd k d) (hk : k ≤ 63) : eqD (.lst ds) (.lst []) = some ds.isEmpty := by
  rw [eqD_gd (gd_lst h) (gd_lst (k := 0) fun d hd => (List.not_mem_nil hd).elim) (by omega) (by omega)]
  cases ds <;> simp [D.py, D.pys, PySem.PyData.eqv, PySem.PyData.eqvAll]
theorem erase_perm {α : Type} : ∀ {l : List α} {i : Nat} (h : i < l.length), (l[i] :: l.eraseIdx i).Perm l
  | [], _, h => by simp at h
  | x :: l, 0, h => by simp
  | x :: l, i + 1, h => by
    simp only [List.getElem_cons_succ, List.eraseIdx_cons_succ]
    exact (List.Perm.swap _ _ _).trans (List.Perm.cons _ (erase_perm _))
theorem bPow {i j : Int} (h : 0 ≤ j ∧ j ≤ 1000000 ∧ i.natAbs < 2 ^ 64) : binD .Pow (.int i) (.int j) = some (.int (i ^ j.toNat)) := if_pos h
theorem eq_int {i j : Int} : eqD (.int i) (.int j) = some (i == j) := by
  rw [eqD_gd (gd_int (k := 0)) (gd_int (k := 0)) (by omega) (by omega)]
  simp [D.py, PySem.PyData.eqv]
theorem eq_bl {i j : Bool} : eqD (.bl i) (.bl j) = some (i == j) := by
  rw [eqD_gd (gd_bl (k := 0)) (gd_bl (k := 0)) (by omega) (by omega)]
  simp [D.py, PySem.PyData.eqv]
namespace K41
open PySem L2 Dm
variable {n : Nat} {S : List OD}
theorem pick (hn : 2 ≤ n) {xs : List D} (h1 : xs ≠ []) (h2 : xs.length < 1000) (hS : Pot S) : ∃ (d : D) (S' : List OD), Pot S' ∧ d ∈ xs ∧ cl n 23 [.ref 0, .val (.lst xs)] S = some (.leaf d, S') := by
  have hl : 0 < xs.length := List.length_pos_iff.mpr h1
  obtain ⟨r, S', hp, hr, e⟩ := draw (n := n - 1) (S := S) (by omega) (m := xs.length) (by omega) (by omega) hS
  have hr' : r < xs.length := by omega
  have hg : xs[r]? = some xs[r] := by simp [hr']
  refine ⟨xs[r], S', hp, List.getElem_mem hr', ?_⟩
  refine call_ok (d := d23) rfl (by omega) rfl (L' := [.ref 0, .val (.lst xs)]) ?_
  show execs _ (.cons t23_0 _) ⟨[.ref 0, .val (.lst xs)], _⟩ = _
  refine r_rt ?_
  simp [t23_0, exec, execs, den, dens, denB, denAs, denKs, denIt, denIfs, denEO, denOE, denOEs, denF, bnd, ret, readVar, peek, peekO, peekL, opn_bv, opn_var, opn_con, opn_glo, opn_tup, opn_lst, opn_bin, opn_sub, opn_att, opn_bi1, opn_call, opn_callK, opn_cmp, opn_ss, opn_sl, cmpM, subM, subB, attM, unaM, setSlot, setSlots, setV, setT, setTs, doCall, mutF, tst, andThen, ofO_s, leafD_l, tr_b, env_call, env_fn, env_wf, env_glob, conD, rtM, itD_l, itD_t, b1L, e, ix_l hg]
theorem mixed_loop {m : Nat} (hm : 1 ≤ m) {x : Slot} : ∀ (k : Nat) {left found : List D} {S : List OD}, left.length < k → found.length + left.length < 1000 → Pot S → (∀ d ∈ left, gd 10 d) →
    ∃ (found' : List D) (S' : List OD), Pot S' ∧ found'.Perm (found ++ left) ∧ whileM (tst (G m) c24_0) (execs (G m) s24_0) k ⟨[.ref 0, x, .own (.fl left), .own (.fl found)], S⟩ = some (.nx, ⟨[.ref 0, x, .own (.fl []), .own (.fl found')], S'⟩)
  | 0, _, _, _, h, _, _, _ => by omega
  | k + 1, [], found, S, _, _, hS, hg => by
    refine ⟨found, S, hS, by simp, ?_⟩
    rw [whileM]
    have e := eq_nil hg (by omega)
    simp [c24_0, exec, execs, den, dens, denB, denAs, denKs, denIt, denIfs, denEO, denOE, denOEs, denF, bnd, ret, readVar, peek, peekO, peekL, opn_bv, opn_var, opn_con, opn_glo, opn_tup, opn_lst, opn_bin, opn_sub, opn_att, opn_bi1, opn_call, opn_callK, opn_cmp, opn_ss, opn_sl, cmpM, subM, subB, attM, unaM, setSlot, setSlots, setV, setT, setTs, doCall, mutF, tst, andThen, ofO_s, leafD_l, tr_b, env_call, env_fn, env_wf, env_glob, conD, rtM, itD_l, itD_t, OD.toD, cmpD, e]
  | k + 1, d0 :: left, found, S, h1, h2, hS, hg => by
    have e := eq_nil hg (by omega)
    obtain ⟨r, S1, hp, hr, ed⟩ := draw (n := m) (S := S) hm (m := (d0 :: left).length) (by simp; omega) (by simp at h2 ⊢; omega) hS
    have hr' : r < (d0 :: left).length := by omega
    obtain ⟨found', S', p1, p2, p3⟩ := mixed_loop hm (x := x) k (left := (d0 :: left).eraseIdx r) (found := found ++ [(d0 :: left)[r]]) (S := S1) (by rw [List.length_eraseIdx_of_lt hr']; simp at h1 ⊢; omega) (by rw [List.length_eraseIdx_of_lt hr']; simp at h2 ⊢; omega) hp (fun d hd => hg d (List.mem_of_mem_eraseIdx hd))
    refine ⟨found', S', p1, p2.trans ?_, ?_⟩
    · rw [List.append_assoc]
      exact List.Perm.append_left _ (erase_perm hr')
    · rw [whileM]
      have e2 : tst (G m) c24_0 ⟨[.ref 0, x, .own (.fl (d0 :: left)), .own (.fl found)], S⟩ = some (true, ⟨[.ref 0, x, .own (.fl (d0 :: left)), .own (.fl found)], S⟩) := by
        simp [c24_0, exec, execs, den, dens, denB, denAs, denKs, denIt, denIfs, denEO, denOE, denOEs, denF, bnd, ret, readVar, peek, peekO, peekL, opn_bv, opn_var, opn_con, opn_glo, opn_tup, opn_lst, opn_bin, opn_sub, opn_att, opn_bi1, opn_call, opn_callK, opn_cmp, opn_ss, opn_sl, cmpM, subM, subB, attM, unaM, setSlot, setSlots, setV, setT, setTs, doCall, mutF, tst, andThen, ofO_s, leafD_l, tr_b, env_call, env_fn, env_wf, env_glob, conD, rtM, itD_l, itD_t, OD.toD, cmpD, e]
      have b : bi1D .len (OD.fl (d0 :: left)).toD = some (.int (d0 :: left).length) := rfl
      have e5 : execs (G m) s24_0 ⟨[.ref 0, x, .own (.fl (d0 :: left)), .own (.fl found)], S⟩ = some (.nx, ⟨[.ref 0, x, .own (.fl ((d0 :: left).eraseIdx r)), .own (.fl (found ++ [(d0 :: left)[r]]))], S1⟩) := by
        refine (r_nx (x_exp (v_mth1 rfl (v_mth1 rfl (L1 := [.ref 0, x, .own (.fl (d0 :: left)), .own (.fl found)]) (S1 := S1) (a := .int r) ?_ rfl (mm_pop (by omega) hr')) rfl (mm_append (by omega))))).trans rfl
        simp only [exec, execs, den, dens, denB, denAs, denKs, denIt, denIfs, denEO, denOE, denOEs, denF, bnd, ret, readVar, peek, peekO, peekL, opn_bv, opn_var, opn_con, opn_glo, opn_tup, opn_lst, opn_bin, opn_sub, opn_att, opn_bi1, opn_call, opn_callK, opn_cmp, opn_ss, opn_sl, cmpM, subM, subB, attM, unaM, setSlot, setSlots, setV, setT, setTs, doCall, mutF, tst, andThen, ofO_s, leafD_l, tr_b, env_call, env_fn, env_wf, env_glob, conD, rtM, itD_l, itD_t, List.getElem?_cons_succ, List.getElem?_cons_zero, List.set_cons_succ, List.set_cons_zero, b, ed]
      rw [bnd_ok e2]
      simp only [if_true, turnEnd, bnd_ok e5, p3]
theorem mixed (hn : 2 ≤ n) {xs : List D} (h2 : xs.length < 1000) (hg : ∀ d ∈ xs, gd 10 d) (hS : Pot S) : ∃ (ys : List D) (S' : List OD), Pot S' ∧ ys.Perm xs ∧ cl n 24 [.ref 0, .val (.lst xs)] S = some (.leaf (.lst ys), S') := by
  obtain ⟨ys, S', p1, p2, p3⟩ := mixed_loop (m := n - 1) (by omega) (x := .val (.lst xs)) 1000 (left := xs) (found := []) h2 (by simpa using h2) hS hg
  refine ⟨ys, S', p1, by simpa using p2, ?_⟩
  refine call_ok (d := d24) rfl (by omega) rfl (L' := [.ref 0, .val (.lst xs), .own (.fl []), .val (.lst ys)]) ?_
  show execs _ (.cons t24_0 (.cons t24_1 (.cons t24_2 .nil))) ⟨[.ref 0, .val (.lst xs), .no, .no], _⟩ = _
  rw [r_nx (s1 := ⟨[.ref 0, .val (.lst xs), .own (.fl xs), .own (.fl [])], S⟩) (by simp [t24_0, exec, execs, den, dens, denB, denAs, denKs, denIt, denIfs, denEO, denOE, denOEs, denF, bnd, ret, readVar, peek, peekO, peekL, opn_bv, opn_var, opn_con, opn_glo, opn_tup, opn_lst, opn_bin, opn_sub, opn_att, opn_bi1, opn_call, opn_callK, opn_cmp, opn_ss, opn_sl, cmpM, subM, subB, attM, unaM, setSlot, setSlots, setV, setT, setTs, doCall, mutF, tst, andThen, ofO_s, leafD_l, tr_b, env_call, env_fn, env_wf, env_glob, conD, rtM, itD_l, itD_t])]
  rw [r_nx (s1 := ⟨[.ref 0, .val (.lst xs), .own (.fl []), .own (.fl ys)], S'⟩)]
  · refine r_rt ?_
    simp [t24_2, exec, execs, den, dens, denB, denAs, denKs, denIt, denIfs, denEO, denOE, denOEs, denF, bnd, ret, readVar, peek, peekO, peekL, opn_bv, opn_var, opn_con, opn_glo, opn_tup, opn_lst, opn_bin, opn_sub, opn_att, opn_bi1, opn_call, opn_callK, opn_cmp, opn_ss, opn_sl, cmpM, subM, subB, attM, unaM, setSlot, setSlots, setV, setT, setTs, doCall, mutF, tst, andThen, ofO_s, leafD_l, tr_b, env_call, env_fn, env_wf, env_glob, conD, rtM, itD_l, itD_t, OD.toD]
  · rw [t24_1, exec]
    exact p3
theorem pot (hn : 1 ≤ n) {ns : List Int} {k : Nat} (hk : k < 2) : ∃ a b : Int, 0 ≤ a ∧ 0 ≤ b ∧ b < 2147483647 ∧ cl n 21 [.val (.scr ns), .val (.int k)] S = some (.fl [.int a, .int b], S) := by
  obtain ⟨c, hc, e⟩ : ∃ c : Int, 0 ≤ c ∧ execs (G (n - 1)) (.cons t21_0 (.cons t21_1 (.cons t21_2 .nil))) ⟨[.val (.scr ns), .val (.int k), .no], S⟩ = execs (G (n - 1)) (.cons t21_2 .nil) ⟨[.val (.scr ns), .val (.int k), .val (.int c)], S⟩ := by
    have z : binD .Mult (.int 167) (.int k) = some (.int (167 * k)) := bMul (by omega)
    by_cases h : k < ns.length
    · refine ⟨(if ns[k] < 0 then -ns[k] else ns[k]), by split <;> omega, ?_⟩
      rw [r_nx (s1 := ⟨[.val (.scr ns), .val (.int k), .val (.int (167 * k + 73))], S⟩) (by simp [t21_0, exec, execs, den, dens, denB, denAs, denKs, denIt, denIfs, denEO, denOE, denOEs, denF, bnd, ret, readVar, peek, peekO, peekL, opn_bv, opn_var, opn_con, opn_glo, opn_tup, opn_lst, opn_bin, opn_sub, opn_att, opn_bi1, opn_call, opn_callK, opn_cmp, opn_ss, opn_sl, cmpM, subM, subB, attM, unaM, setSlot, setSlots, setV, setT, setTs, doCall, mutF, tst, andThen, ofO_s, leafD_l, tr_b, env_call, env_fn, env_wf, env_glob, conD, rtM, itD_l, itD_t, z, bAdd])]
      rw [r_nx]
      have e2 : ixD (.scr ns) (.int k) = some (.int ns[k]) := by simp [ixD, atI, ixN, h]
      have e3 : bi1D .len (.scr ns) = some (.int ns.length) := rfl
      simp [t21_1, s21_0, u21_0, exec, execs, den, dens, denB, denAs, denKs, denIt, denIfs, denEO, denOE, denOEs, denF, bnd, ret, readVar, peek, peekO, peekL, opn_bv, opn_var, opn_con, opn_glo, opn_tup, opn_lst, opn_bin, opn_sub, opn_att, opn_bi1, opn_call, opn_callK, opn_cmp, opn_ss, opn_sl, cmpM, subM, subB, attM, unaM, setSlot, setSlots, setV, setT, setTs, doCall, mutF, tst, andThen, ofO_s, leafD_l, tr_b, env_call, env_fn, env_wf, env_glob, conD, rtM, itD_l, itD_t, cmpD, cmpI, e3, h, e2, bi1D]
    · refine ⟨167 * k + 73, by omega, ?_⟩
      rw [r_nx (s1 := ⟨[.val (.scr ns), .val (.int k), .val (.int (167 * k + 73))], S⟩) (by simp [t21_0, exec, execs, den, dens, denB, denAs, denKs, denIt, denIfs, denEO, denOE, denOEs, denF, bnd, ret, readVar, peek, peekO, peekL, opn_bv, opn_var, opn_con, opn_glo, opn_tup, opn_lst, opn_bin, opn_sub, opn_att, opn_bi1, opn_call, opn_callK, opn_cmp, opn_ss, opn_sl, cmpM, subM, subB, attM, unaM, setSlot, setSlots, setV, setT, setTs, doCall, mutF, tst, andThen, ofO_s, leafD_l, tr_b, env_call, env_fn, env_wf, env_glob, conD, rtM, itD_l, itD_t, z, bAdd])]
      rw [r_nx]
      have e3 : bi1D .len (.scr ns) = some (.int ns.length) := rfl
      simp [t21_1, s21_0, u21_0, exec, execs, den, dens, denB, denAs, denKs, denIt, denIfs, denEO, denOE, denOEs, denF, bnd, ret, readVar, peek, peekO, peekL, opn_bv, opn_var, opn_con, opn_glo, opn_tup, opn_lst, opn_bin, opn_sub, opn_att, opn_bi1, opn_call, opn_callK, opn_cmp, opn_ss, opn_sl, cmpM, subM, subB, attM, unaM, setSlot, setSlots, setV, setT, setTs, doCall, mutF, tst, andThen, ofO_s, leafD_l, tr_b, env_call, env_fn, env_wf, env_glob, conD, rtM, itD_l, itD_t, cmpD, cmpI, e3, h]
  have q1 : 0 ≤ (c % 2147483549 * 48271 + 9521 * k + 43) % 2147483497 := Int.emod_nonneg _ (by omega)
  have q2 : (c % 2147483549 * 48271 + 9521 * k + 43) % 2147483497 < 2147483497 := Int.emod_lt_of_pos _ (by omega)
  have m1 : binD .Mult (.int (c % 2147483549)) (.int 48271) = some (.int (c % 2147483549 * 48271)) := bMul (by omega)
  have m2 : binD .Mult (.int 9521) (.int k) = some (.int (9521 * k)) := bMul (by omega)
  have m3 : binD .Mod (.int c) (.int 2147483549) = some (.int (c % 2147483549)) := bMod (by omega)
  have m4 : binD .Mod (.int (c % 2147483549 * 48271 + 9521 * k + 43)) (.int 2147483497) = some (.int ((c % 2147483549 * 48271 + 9521 * k + 43) % 2147483497)) := bMod (by omega)
  have m5 : binD .Pow (.int 10) (.int 18) = some (.int 1000000000000000000) := by
    rw [bPow (by decide)]
    rfl
  have m6 : bi2D .max2 (.int 0) (.int (c - 1000000000000000000)) = some (.int (if c - 1000000000000000000 > 0 then c - 1000000000000000000 else 0)) := rfl
  refine ⟨if c - 1000000000000000000 > 0 then c - 1000000000000000000 else 0, (c % 2147483549 * 48271 + 9521 * k + 43) % 2147483497 + 1, by split <;> omega, by omega, by omega, ?_⟩
  refine call_ok (d := d21) rfl (by omega) rfl (L' := [.val (.scr ns), .val (.int k), .val (.int c)]) ?_
  refine Eq.trans e ?_
  refine r_rt ?_
  simp [t21_2, exec, execs, den, dens, denB, denAs, denKs, denIt, denIfs, denEO, denOE, denOEs, denF, bnd, ret, readVar, peek, peekO, peekL, opn_bv, opn_var, opn_con, opn_glo, opn_tup, opn_lst, opn_bin, opn_sub, opn_att, opn_bi1, opn_call, opn_callK, opn_cmp, opn_ss, opn_sl, cmpM, subM, subB, attM, unaM, setSlot, setSlots, setV, setT, setTs, doCall, mutF, tst, andThen, ofO_s, leafD_l, tr_b, env_call, env_fn, env_wf, env_glob, conD, rtM, itD_l, itD_t, m1, m2, m3, m4, m5, m6, bAdd, bSub, b1I, sizeLine]
end K41
end Dm

namespace Dm
open PySem L2
theorem gd.top {k : Nat} {d : D} (h : gd k d) : (∀ q fs, d ≠ .obj q fs) ∧ ∀ ns, d ≠ .scr ns := by
  refine ⟨fun q fs z => ?_, fun ns z => ?_⟩ <;> (subst z; have := h.1; rw [D.py] at this; simp [PyData.canLay0] at this)
theorem eqv_all_refl : ∀ {ds : List D}, (∀ d ∈ ds, PyData.eqv d.py d.py = true) → PyData.eqvAll (D.pys ds) (D.pys ds) = true
  | [], _ => by simp [D.pys, PyData.eqvAll]
  | d :: ds, h => by
    rw [D.pys, PyData.eqvAll, h d List.mem_cons_self, eqv_all_refl fun d hd => h d (List.mem_cons_of_mem _ hd)]; rfl
theorem allBl_true : ∀ {ds : List D}, (∀ d ∈ ds, d = .bl true) → bi1D .all (.lst ds) = some (.bl true) := by
  intro ds h
  have : allBl ds = some (List.replicate ds.length true) := by
    induction ds with
    | nil => rfl
    | cons d ds ih =>
      rw [h d List.mem_cons_self, allBl, ih fun d hd => h d (List.mem_cons_of_mem _ hd)]; rfl
  show (allBl ds).map _ = _
  rw [this]
  simp
theorem allBl_map {ds : List D} {p : D → Bool} : bi1D .all (.lst (ds.map fun d => .bl (p d))) = some (.bl (ds.all p)) := by
  have : allBl (ds.map fun d => D.bl (p d)) = some (ds.map p) := by
    induction ds with
    | nil => rfl
    | cons d ds ih => rw [List.map_cons, allBl, ih]; rfl
  show (allBl _).map _ = _
  rw [this]
  simp [List.all_map]
theorem anyBl_map {ds : List D} {p : D → Bool} : bi1D .any (.lst (ds.map fun d => .bl (p d))) = some (.bl (ds.any p)) := by
  have : allBl (ds.map fun d => D.bl (p d)) = some (ds.map p) := by
    induction ds with
    | nil => rfl
    | cons d ds ih => rw [List.map_cons, allBl, ih]; rfl
  show (allBl _).map _ = _
  rw [this]
  simp [List.any_map]
theorem enum_mem : ∀ {ds : List D} {k : Nat} {v : D}, v ∈ enumD k ds → ∃ (i : Nat) (d : D), v = .tup [.int i, d] ∧ d ∈ ds
  | [], _, _, h => by simp [enumD] at h
  | d :: ds, k, v, h => by
    rw [enumD, List.mem_cons] at h
    rcases h with rfl | h
    · exact ⟨k, d, rfl, List.mem_cons_self⟩
    · obtain ⟨i, d', e, hd⟩ := enum_mem h
      exact ⟨i, d', e, List.mem_cons_of_mem _ hd⟩
namespace K41
variable {n : Nat} {S : List OD}
def rowL (n : Nat) (g : Nat → Nat) : List D := (List.range n).map fun y => .int (g y)
def rowsL (n : Nat) (f : Nat → Nat → Nat) : List D := (List.range n).map fun x => .lst (rowL n (f x))
def tupsL (n : Nat) (f : Nat → Nat → Nat) : List D := (List.range n).map fun x => .tup (rowL n (f x))
def rowsD (n : Nat) (f : Nat → Nat → Nat) : D := .lst (rowsL n f)
def tabD (n : Nat) (f : Nat → Nat → Nat) : D := .obj 0 [.tup (tupsL n f)]
structure Tb (n : Nat) (f : Nat → Nat → Nat) : Prop where
  pos : 1 ≤ n
  most : n ≤ 7
  in' : ∀ x, x < n → ∀ y, y < n → f x y < n
theorem rowL_len {g : Nat → Nat} : (rowL n g).length = n := by simp [rowL]
theorem rowsL_len {f : Nat → Nat → Nat} : (rowsL n f).length = n := by simp [rowsL]
theorem tupsL_len {f : Nat → Nat → Nat} : (tupsL n f).length = n := by simp [tupsL]
theorem rowL_at {g : Nat → Nat} {y : Nat} (h : y < n) : (rowL n g)[y]? = some (.int (g y)) := by simp [rowL, h]
theorem rowsL_at {f : Nat → Nat → Nat} {y : Nat} (h : y < n) : (rowsL n f)[y]? = some (.lst (rowL n (f y))) := by simp [rowsL, h]
theorem tupsL_at {f : Nat → Nat → Nat} {y : Nat} (h : y < n) : (tupsL n f)[y]? = some (.tup (rowL n (f y))) := by simp [tupsL, h]
theorem rowL_mem {g : Nat → Nat} {d : D} (h : d ∈ rowL n g) : ∃ y, y < n ∧ d = .int (g y) := by
  unfold rowL at h
  obtain ⟨y, hy, rfl⟩ := List.mem_map.mp h
  exact ⟨y, List.mem_range.mp hy, rfl⟩
theorem rowsL_mem {f : Nat → Nat → Nat} {d : D} (h : d ∈ rowsL n f) : ∃ x, x < n ∧ d = .lst (rowL n (f x)) := by
  unfold rowsL at h
  obtain ⟨y, hy, rfl⟩ := List.mem_map.mp h
  exact ⟨y, List.mem_range.mp hy, rfl⟩
theorem tupsL_mem {f : Nat → Nat → Nat} {d : D} (h : d ∈ tupsL n f) : ∃ x, x < n ∧ d = .tup (rowL n (f x)) := by
  unfold tupsL at h
  obtain ⟨y, hy, rfl⟩ := List.mem_map.mp h
  exact ⟨y, List.mem_range.mp hy, rfl⟩
/-- whether a value of the table's -/
def isV (n : Nat) : D → Bool
  | .int i => decide (0 ≤ i ∧ i < (n : Int))
  | _ => false
def isInt : D → Bool
  | .int _ => true
  | _ => false
theorem sp0 {m k : Nat} (hm : 1 ≤ m) {d : D} (h : gd k d) : cl m 0 [.val d] S = some (.leaf (.bl (isInt d)), S) := by
  refine call_ok (d := d0) rfl hm rfl (L' := [.val d]) ?_
  cases d with
  | obj q fs => exact absurd rfl (h.top.1 q fs)
  | scr ns => exact absurd rfl (h.top.2 ns)
  | _ => rfl
theorem sp1 {m : Nat} (hm : 1 ≤ m) {xs : List D} : cl m 1 [.val (.lst xs)] S = some (.leaf (.bl true), S) :=
  call_ok (d := d1) rfl hm rfl (L' := [.val (.lst xs)]) rfl
theorem sp2 {m k : Nat} (hm : 2 ≤ m) {d : D} (h : gd k d) : cl m 2 [.val d, .val (.int n)] S = some (.leaf (.bl (isV n d)), S) := by
  refine call_ok (d := d2) rfl (by omega) rfl (L' := [.val d, .val (.int n)]) ?_
  have e := sp0 (m := m - 1) (S := S) (by omega) h
  show execs _ (.cons t2_0 .nil) ⟨[.val d, .val (.int n)], S⟩ = _
  refine r_rt ?_
  cases d with
  | int i =>
    by_cases hi : 0 ≤ i
    · simp [t2_0, exec, execs, den, dens, denB, denAs, denKs, denIt, denIfs, denEO, denOE, denOEs, denF, bnd, ret, readVar, peek, peekO, peekL, opn_bv, opn_var, opn_con, opn_glo, opn_tup, opn_lst, opn_bin, opn_sub, opn_att, opn_bi1, opn_call, opn_callK, opn_cmp, opn_ss, opn_sl, cmpM, subM, subB, attM, unaM, setSlot, setSlots, setV, setT, setTs, doCall, mutF, tst, andThen, ofO_s, leafD_l, tr_b, env_call, env_fn, env_wf, env_glob, conD, rtM, itD_l, itD_t, e, isInt, cmpD, cmpI, isV, hi]
    · simp [t2_0, exec, execs, den, dens, denB, denAs, denKs, denIt, denIfs, denEO, denOE, denOEs, denF, bnd, ret, readVar, peek, peekO, peekL, opn_bv, opn_var, opn_con, opn_glo, opn_tup, opn_lst, opn_bin, opn_sub, opn_att, opn_bi1, opn_call, opn_callK, opn_cmp, opn_ss, opn_sl, cmpM, subM, subB, attM, unaM, setSlot, setSlots, setV, setT, setTs, doCall, mutF, tst, andThen, ofO_s, leafD_l, tr_b, env_call, env_fn, env_wf, env_glob, conD, rtM, itD_l, itD_t, e, isInt, cmpD, cmpI, isV, hi]
  | _ => simp [t2_0, exec, execs, den, dens, denB, denAs, denKs, denIt, denIfs, denEO, denOE, denOEs, denF, bnd, ret, readVar, peek, peekO, peekL, opn_bv, opn_var, opn_con, opn_glo, opn_tup, opn_lst, opn_bin, opn_sub, opn_att, opn_bi1, opn_call, opn_callK, opn_cmp, opn_ss, opn_sl, cmpM, subM, subB, attM, unaM, setSlot, setSlots, setV, setT, setTs, doCall, mutF, tst, andThen, ofO_s, leafD_l, tr_b, env_call, env_fn, env_wf, env_glob, conD, rtM, itD_l, itD_t, e, isInt, isV]
theorem att_own {x : D} : attO Pr.fn 0 "own_rows" (.leaf (.obj 0 [x])) = some x := by
  simp only [attO]
  rw [if_pos (by rfl)]
  rfl
theorem sp9 {m k : Nat} (hm : 3 ≤ m) {f : Nat → Nat → Nat} {d : D} (h : gd k d) : cl m 9 [.val (tabD n f), .val d] S = some (.leaf (.bl (isV n d)), S) := by
  refine call_ok (d := d9) rfl (by omega) rfl (L' := [.val (tabD n f), .val d]) ?_
  have e := sp2 (m := m - 1) (n := n) (S := S) (by omega) h
  have e2 : bi1D .len (.tup (tupsL n f)) = some (.int n) := by rw [b1T, tupsL_len]
  have e3 : attO Pr.fn 0 "own_rows" (.leaf (tabD n f)) = some (.tup (tupsL n f)) := att_own
  show execs _ (.cons t9_0 .nil) ⟨[.val (tabD n f), .val d], S⟩ = _
  refine r_rt ?_
  simp [t9_0, exec, execs, den, dens, denB, denAs, denKs, denIt, denIfs, denEO, denOE, denOEs, denF, bnd, ret, readVar, peek, peekO, peekL, opn_bv, opn_var, opn_con, opn_glo, opn_tup, opn_lst, opn_bin, opn_sub, opn_att, opn_bi1, opn_call, opn_callK, opn_cmp, opn_ss, opn_sl, cmpM, subM, subB, attM, unaM, setSlot, setSlots, setV, setT, setTs, doCall, mutF, tst, andThen, ofO_s, leafD_l, tr_b, env_call, env_fn, env_wf, env_glob, conD, rtM, itD_l, itD_t, e, e2, e3]
end K41
end Dm

namespace Dm
open PySem L2
namespace K41
variable {n m : Nat} {S : List OD} {f : Nat → Nat → Nat}
/-! ### tables are made -/
theorem gd_rowL {g : Nat → Nat} {k : Nat} : ∀ d ∈ rowL n g, gd k d := fun d hd => by
  obtain ⟨y, _, rfl⟩ := rowL_mem hd
  exact gd_int
theorem it_l {Γ : Env} {i : Nat} {x : Str} {p : Pos} {L : List Slot} {xs : List D} (h : L[i]? = some (.val (.lst xs))) : denIt Γ (.e (.var i x p)) ⟨L, S⟩ = some (xs, ⟨L, S⟩) := by
  simp only [denIt, den, bnd, readVar, h, itD, ofO_s, ret]
def tupOf : D → D
  | .lst xs => .tup xs
  | d => d
theorem sp3 (hT : Tb n f) (hm : 3 ≤ m) {o : OD} : cl m 3 [.ref 1, .val (rowsD n f)] [o, .oobj 0 []] = some (.leaf .non, [o, .oobj 0 [.tup (tupsL n f)]]) := by
  obtain ⟨m, rfl⟩ : ∃ k, m = k + 1 := ⟨m - 1, by omega⟩
  have h7 := hT.most
  have h1 := hT.pos
  have ea := sp1 (m := m) (S := [o, .oobj 0 []]) (by omega) (xs := rowsL n f)
  have el : bi1D .len (rowsD n f) = some (.int n) := by unfold rowsD; rw [b1L, rowsL_len]
  -- the size
  have g1 : exec (G m) t3_0 ⟨[.ref 1, .val (rowsD n f), .no, .no, .no], [o, .oobj 0 []]⟩ = some (.nx, ⟨[.ref 1, .val (rowsD n f), .no, .no, .no], [o, .oobj 0 []]⟩) := by
    have eg : Pr.glob 0 = some (.int 7) := rfl
    have ea' : cl m 1 [.val (rowsD n f)] [o, .oobj 0 []] = _ := ea
    have c1 : cmpD .LtE (.int 1) (.int n) = some (.bl true) := by simp [cmpD, cmpI]; omega
    have c2 : cmpD .LtE (.int n) (.int 7) = some (.bl true) := by simp [cmpD, cmpI]; omega
    simp [t3_0, exec, execs, den, dens, denB, denAs, denKs, denIt, denIfs, denEO, denOE, denOEs, denF, bnd, ret, readVar, peek, peekO, peekL, opn_bv, opn_var, opn_con, opn_glo, opn_tup, opn_lst, opn_bin, opn_sub, opn_att, opn_bi1, opn_call, opn_callK, opn_cmp, opn_ss, opn_sl, cmpM, subM, subB, attM, unaM, setSlot, setSlots, setV, setT, setTs, doCall, mutF, tst, andThen, ofO_s, leafD_l, tr_b, env_call, env_fn, env_wf, env_glob, conD, rtM, itD_l, itD_t, ea', el, eg, c1, c2]
  -- the rows
  obtain ⟨s1, g2, ⟨y1, y2, hy, rfl⟩⟩ := for_inv (t := .tp (.cons (.nm 2 "position" (P 31 12 20)) (.cons (.nm 3 "row" (P 31 22 25)) .nil)) 0 (P 31 12 25)) (body := execs (G m) s3_2) (fun s => ∃ y1 y2, (y2 = .no ∨ ∃ d, y2 = .val d) ∧ s = ⟨[.ref 1, .val (rowsD n f), y1, y2, .no], [o, .oobj 0 []]⟩) (items := enumD 0 (rowsL n f))
    (fun v hv s hs => by
      obtain ⟨y1, y2, _, rfl⟩ := hs
      obtain ⟨i, d, rfl, hd⟩ := enum_mem hv
      obtain ⟨x, hx, rfl⟩ := rowsL_mem hd
      refine ⟨⟨[.ref 1, .val (rowsD n f), .val (.int i), .val (.lst (rowL n (f x))), .no], [o, .oobj 0 []]⟩, ⟨[.ref 1, .val (rowsD n f), .val (.int i), .val (.lst (rowL n (f x))), .no], [o, .oobj 0 []]⟩, by simp [exec, execs, den, dens, denB, denAs, denKs, denIt, denIfs, denEO, denOE, denOEs, denF, bnd, ret, readVar, peek, peekO, peekL, opn_bv, opn_var, opn_con, opn_glo, opn_tup, opn_lst, opn_bin, opn_sub, opn_att, opn_bi1, opn_call, opn_callK, opn_cmp, opn_ss, opn_sl, cmpM, subM, subB, attM, unaM, setSlot, setSlots, setV, setT, setTs, doCall, mutF, tst, andThen, ofO_s, leafD_l, tr_b, env_call, env_fn, env_wf, env_glob, conD, rtM, itD_l, itD_t], ?_, _, _, .inr ⟨_, rfl⟩, rfl⟩
      have eb := sp1 (m := m) (S := [o, .oobj 0 []]) (by omega) (xs := rowL n (f x))
      have ec : den (G m) c3_0 ⟨[.ref 1, .val (rowsD n f), .val (.int i), .val (.lst (rowL n (f x))), .no], [o, .oobj 0 []]⟩ = some (.lst ((rowL n (f x)).map fun _ => .bl true), ⟨[.ref 1, .val (rowsD n f), .val (.int i), .val (.lst (rowL n (f x))), .no], [o, .oobj 0 []]⟩) := by
        refine comp1p (fun _ => .bl true) (.inl rfl) (it_l rfl) (by rw [rowL_len]; unfold sizeLine; omega) fun v hv => ?_
        obtain ⟨y, hy, rfl⟩ := rowL_mem hv
        have e2 := sp2 (m := m) (n := n) (S := [o, .oobj 0 []]) (by omega) (gd_int (k := 0) (i := (f x y : Nat)))
        have e3 : isV n (.int (f x y : Nat)) = true := by simp [isV]; exact hT.in' x hx y hy
        rw [e3] at e2
        simp [exec, execs, den, dens, denB, denAs, denKs, denIt, denIfs, denEO, denOE, denOEs, denF, bnd, ret, readVar, peek, peekO, peekL, opn_bv, opn_var, opn_con, opn_glo, opn_tup, opn_lst, opn_bin, opn_sub, opn_att, opn_bi1, opn_call, opn_callK, opn_cmp, opn_ss, opn_sl, cmpM, subM, subB, attM, unaM, setSlot, setSlots, setV, setT, setTs, doCall, mutF, tst, andThen, ofO_s, leafD_l, tr_b, env_call, env_fn, env_wf, env_glob, conD, rtM, itD_l, itD_t, el, e2]
      have el2 : bi1D .len (.lst (rowL n (f x))) = some (.int n) := by rw [b1L, rowL_len]
      have e4 : bi1D .all (.lst ((rowL n (f x)).map fun _ => .bl true)) = some (.bl true) := allBl_true fun d hd => by
        obtain ⟨_, _, rfl⟩ := List.mem_map.mp hd; rfl
      have e5 : cmpD .NotEq (.int n) (.int n) = some (.bl false) := by simp [cmpD, eq_int]
      unfold s3_2
      rw [r_nx (s1 := ⟨[.ref 1, .val (rowsD n f), .val (.int i), .val (.lst (rowL n (f x))), .no], [o, .oobj 0 []]⟩)]
      · rfl
      · have ho : ∀ mm, opn mm c3_0 = mm := fun _ => rfl
        simp [u3_2, exec, execs, den, dens, denB, denAs, denKs, denIt, denIfs, denEO, denOE, denOEs, denF, bnd, ret, readVar, peek, peekO, peekL, opn_bv, opn_var, opn_con, opn_glo, opn_tup, opn_lst, opn_bin, opn_sub, opn_att, opn_bi1, opn_call, opn_callK, opn_cmp, opn_ss, opn_sl, cmpM, subM, subB, attM, unaM, setSlot, setSlots, setV, setT, setTs, doCall, mutF, tst, andThen, ofO_s, leafD_l, tr_b, env_call, env_fn, env_wf, env_glob, conD, rtM, itD_l, itD_t, ho, eb, el, el2, ec, e4, e5]) ⟨.no, .no, .inl rfl, rfl⟩
  have g3 : exec (G m) t3_1 ⟨[.ref 1, .val (rowsD n f), .no, .no, .no], [o, .oobj 0 []]⟩ = some (.nx, ⟨[.ref 1, .val (rowsD n f), y1, y2, .no], [o, .oobj 0 []]⟩) := by
    have ei : denIt (G m) (.enu (.var 1 "rows" (P 31 39 43)) (P 31 29 38) (P 31 29 44)) ⟨[.ref 1, .val (rowsD n f), .no, .no, .no], [o, .oobj 0 []]⟩ = some (enumD 0 (rowsL n f), ⟨[.ref 1, .val (rowsD n f), .no, .no, .no], [o, .oobj 0 []]⟩) := by
      simp [exec, execs, den, dens, denB, denAs, denKs, denIt, denIfs, denEO, denOE, denOEs, denF, bnd, ret, readVar, peek, peekO, peekL, opn_bv, opn_var, opn_con, opn_glo, opn_tup, opn_lst, opn_bin, opn_sub, opn_att, opn_bi1, opn_call, opn_callK, opn_cmp, opn_ss, opn_sl, cmpM, subM, subB, attM, unaM, setSlot, setSlots, setV, setT, setTs, doCall, mutF, tst, andThen, ofO_s, leafD_l, tr_b, env_call, env_fn, env_wf, env_glob, conD, rtM, itD_l, itD_t, rowsD]
    unfold t3_1
    rw [exec, bnd_ok ei]
    exact g2
  have g4 : den (G m) c3_1 ⟨[.ref 1, .val (rowsD n f), y1, y2, .no], [o, .oobj 0 []]⟩ = some (.lst ((rowsL n f).map tupOf), ⟨[.ref 1, .val (rowsD n f), y1, y2, .no], [o, .oobj 0 []]⟩) := by
    refine comp1p tupOf (by rcases hy with rfl | ⟨d, rfl⟩ <;> simp) (it_l rfl) (by rw [rowsL_len]; unfold sizeLine; omega) fun v hv => ?_
    obtain ⟨x, hx, rfl⟩ := rowsL_mem hv
    simp [exec, execs, den, dens, denB, denAs, denKs, denIt, denIfs, denEO, denOE, denOEs, denF, bnd, ret, readVar, peek, peekO, peekL, opn_bv, opn_var, opn_con, opn_glo, opn_tup, opn_lst, opn_bin, opn_sub, opn_att, opn_bi1, opn_call, opn_callK, opn_cmp, opn_ss, opn_sl, cmpM, subM, subB, attM, unaM, setSlot, setSlots, setV, setT, setTs, doCall, mutF, tst, andThen, ofO_s, leafD_l, tr_b, env_call, env_fn, env_wf, env_glob, conD, rtM, itD_l, itD_t, convD, tupOf]
  have g5 : (rowsL n f).map tupOf = tupsL n f := by simp [rowsL, tupsL, tupOf]
  rw [g5] at g4
  have g6 : exec (G m) t3_2 ⟨[.ref 1, .val (rowsD n f), y1, y2, .no], [o, .oobj 0 []]⟩ = some (.nx, ⟨[.ref 1, .val (rowsD n f), y1, y2, .no], [o, .oobj 0 [.tup (tupsL n f)]]⟩) := by
    have gf : (Pr.fn 0)[0]? = some (("own_rows" : Str)) := rfl
    unfold t3_2
    rw [exec, den]
    rw [bnd_ok ((bnd_ok g4).trans (show ofO (convD .tuple (.lst (tupsL n f))) _ = some (.tup (tupsL n f), _) from rfl))]
    simp [bnd, setFld, env_fn, gf, ret]
  refine call_nx (d := d3) rfl (by omega) rfl (L' := [.ref 1, .val (rowsD n f), y1, y2, .no]) ?_
  show execs (G m) (.cons t3_0 (.cons t3_1 (.cons t3_2 .nil))) ⟨[.ref 1, .val (rowsD n f), .no, .no, .no], [o, .oobj 0 []]⟩ = _
  rw [r_nx g1, r_nx g3, r_nx g6]
  rfl
theorem new_tab (hT : Tb n f) (hm : 3 ≤ m) {o : OD} {L : List Slot} : make (G m) 0 3 [.val (rowsD n f)] ⟨L, [o]⟩ = some (tabD n f, ⟨L, [o]⟩) := by
  have e := sp3 hT hm (o := o)
  unfold make
  rw [if_pos (by simp [refsIn])]
  simp only [env_call, List.length_singleton, List.singleton_append]
  rw [e]
  rfl
theorem sp6 (hm : 1 ≤ m) : cl m 6 [.val (tabD n f)] S = some (.leaf (.int n), S) := by
  refine call_ok (d := d6) rfl (by omega) rfl (L' := [.val (tabD n f)]) ?_
  have e2 : bi1D .len (.tup (tupsL n f)) = some (.int n) := by rw [b1T, tupsL_len]
  have e3 : attO Pr.fn 0 "own_rows" (.leaf (tabD n f)) = some (.tup (tupsL n f)) := att_own
  show execs _ (.cons t6_0 .nil) ⟨[.val (tabD n f)], S⟩ = _
  refine r_rt ?_
  simp [t6_0, exec, execs, den, dens, denB, denAs, denKs, denIt, denIfs, denEO, denOE, denOEs, denF, bnd, ret, readVar, peek, peekO, peekL, opn_bv, opn_var, opn_con, opn_glo, opn_tup, opn_lst, opn_bin, opn_sub, opn_att, opn_bi1, opn_call, opn_callK, opn_cmp, opn_ss, opn_sl, cmpM, subM, subB, attM, unaM, setSlot, setSlots, setV, setT, setTs, doCall, mutF, tst, andThen, ofO_s, leafD_l, tr_b, env_call, env_fn, env_wf, env_glob, conD, rtM, itD_l, itD_t, e2, e3]
theorem sp7 (hm : 1 ≤ m) : cl m 7 [.val (tabD n f), .val (tabD n f)] S = some (.leaf (.bl true), S) := by
  refine call_ok (d := d7) rfl (by omega) rfl (L' := [.val (tabD n f), .val (tabD n f)]) ?_
  have e3 : attO Pr.fn 0 "own_rows" (.leaf (tabD n f)) = some (.tup (tupsL n f)) := att_own
  have hg : gd 2 (.tup (tupsL n f)) := gd_tup fun d hd => by
    obtain ⟨x, _, rfl⟩ := tupsL_mem hd
    exact gd_tup gd_rowL
  have e4 : cmpD .Eq (.tup (tupsL n f)) (.tup (tupsL n f)) = some (.bl true) := by
    show (eqD _ _).map _ = _
    rw [eqD_gd hg hg (by omega) (by omega)]
    rw [D.py, PyData.eqv, eqv_all_refl]
    · rfl
    · intro d hd
      obtain ⟨x, _, rfl⟩ := tupsL_mem hd
      rw [D.py, PyData.eqv, eqv_all_refl]
      intro d hd
      obtain ⟨y, _, rfl⟩ := rowL_mem hd
      simp [D.py, PyData.eqv]
  have e5 : isiCD 0 (tabD n f) = some true := by simp [tabD, isiCD]
  show execs _ (.cons t7_0 .nil) ⟨[.val (tabD n f), .val (tabD n f)], S⟩ = _
  refine r_rt ?_
  simp [t7_0, exec, execs, den, dens, denB, denAs, denKs, denIt, denIfs, denEO, denOE, denOEs, denF, bnd, ret, readVar, peek, peekO, peekL, opn_bv, opn_var, opn_con, opn_glo, opn_tup, opn_lst, opn_bin, opn_sub, opn_att, opn_bi1, opn_call, opn_callK, opn_cmp, opn_ss, opn_sl, cmpM, subM, subB, attM, unaM, setSlot, setSlots, setV, setT, setTs, doCall, mutF, tst, andThen, ofO_s, leafD_l, tr_b, env_call, env_fn, env_wf, env_glob, conD, rtM, itD_l, itD_t, e3, e4, e5]
end K41
end Dm

namespace Dm
open PySem L2
namespace K41
variable {n m : Nat} {S : List OD} {f : Nat → Nat → Nat}
/-! ### things as trees of pairs -/
inductive Tr where
  | lf (d : D)
  | nd (a b : Tr)
def Tr.d : Tr → D
  | .lf d => d
  | .nd a b => .tup [a.d, b.d]
def Tr.ok : Tr → Prop
  | .lf d => (∀ a b, d ≠ .tup [a, b]) ∧ gd 5 d
  | .nd a b => a.ok ∧ b.ok
def Tr.dep : Tr → Nat
  | .lf _ => 0
  | .nd a b => max a.dep b.dep + 1
def Tr.cnt : Tr → Nat
  | .lf _ => 1
  | .nd a b => a.cnt + b.cnt
/-- its ends, from the right -/
def Tr.lv : Tr → List D
  | .lf d => [d]
  | .nd a b => b.lv ++ a.lv
def Tr.isNd : Tr → Bool
  | .lf _ => false
  | .nd _ _ => true
theorem Tr.cnt_pos : ∀ t : Tr, 1 ≤ t.cnt
  | .lf _ => Nat.le_refl _
  | .nd a b => by rw [Tr.cnt]; have := Tr.cnt_pos a; omega
theorem Tr.gd : ∀ {t : Tr}, t.ok → gd (5 + t.dep) t.d
  | .lf d, h => h.2
  | .nd a b, h => by
    rw [Tr.d, Tr.dep]
    refine gd_tup (k := 5 + max a.dep b.dep) fun d hd => ?_
    rcases List.mem_cons.mp hd with rfl | hd
    · exact (Tr.gd h.1).mono (by omega)
    · rw [List.mem_singleton] at hd; subst hd
      exact (Tr.gd h.2).mono (by omega)
theorem Tr.lv_ok : ∀ {t : Tr}, t.ok → ∀ d ∈ t.lv, Dm.gd 5 d
  | .lf d, h, x, hx => by rw [Tr.lv, List.mem_singleton] at hx; subst hx; exact h.2
  | .nd a b, h, x, hx => by
    rw [Tr.lv, List.mem_append] at hx
    rcases hx with hx | hx
    · exact Tr.lv_ok h.2 x hx
    · exact Tr.lv_ok h.1 x hx
theorem Tr.lv_len : ∀ t : Tr, t.lv.length = t.cnt
  | .lf _ => rfl
  | .nd a b => by rw [Tr.lv, Tr.cnt, List.length_append, Tr.lv_len, Tr.lv_len]; omega
theorem sp11 (hm : 1 ≤ m) {t : Tr} (h : t.ok) : cl m 11 [.val t.d] S = some (.leaf (.bl t.isNd), S) := by
  refine call_ok (d := d11) rfl hm rfl (L' := [.val t.d]) ?_
  show execs _ (.cons t11_0 .nil) ⟨[.val t.d], S⟩ = _
  refine r_rt ?_
  cases t with
  | nd a b =>
    have e : cmpD .Eq (.int 2) (.int 2) = some (.bl true) := by simp [cmpD, eq_int]
    simp [t11_0, exec, execs, den, dens, denB, denAs, denKs, denIt, denIfs, denEO, denOE, denOEs, denF, bnd, ret, readVar, peek, peekO, peekL, opn_bv, opn_var, opn_con, opn_glo, opn_tup, opn_lst, opn_bin, opn_sub, opn_att, opn_bi1, opn_call, opn_callK, opn_cmp, opn_ss, opn_sl, cmpM, subM, subB, attM, unaM, setSlot, setSlots, setV, setT, setTs, doCall, mutF, tst, andThen, ofO_s, leafD_l, tr_b, env_call, env_fn, env_wf, env_glob, conD, rtM, itD_l, itD_t, Tr.d, isiD, b1T, e, Tr.isNd]
  | lf d =>
    rw [Tr.d, Tr.isNd]
    cases d with
    | obj q fs => exact absurd rfl (h.2.top.1 q fs)
    | scr ns => exact absurd rfl (h.2.top.2 ns)
    | tup xs =>
      have e : cmpD .Eq (.int xs.length) (.int 2) = some (.bl false) := by
        simp only [cmpD, eq_int, Option.map_some]
        congr 2
        match xs, h.1 with
        | [], _ => rfl
        | [_], _ => rfl
        | [a, b], h => exact absurd rfl (h a b)
        | _ :: _ :: _ :: r, _ => simp; omega
      simp [t11_0, exec, execs, den, dens, denB, denAs, denKs, denIt, denIfs, denEO, denOE, denOEs, denF, bnd, ret, readVar, peek, peekO, peekL, opn_bv, opn_var, opn_con, opn_glo, opn_tup, opn_lst, opn_bin, opn_sub, opn_att, opn_bi1, opn_call, opn_callK, opn_cmp, opn_ss, opn_sl, cmpM, subM, subB, attM, unaM, setSlot, setSlots, setV, setT, setTs, doCall, mutF, tst, andThen, ofO_s, leafD_l, tr_b, env_call, env_fn, env_wf, env_glob, conD, rtM, itD_l, itD_t, isiD, b1T, e]
    | _ => simp [t11_0, exec, execs, den, dens, denB, denAs, denKs, denIt, denIfs, denEO, denOE, denOEs, denF, bnd, ret, readVar, peek, peekO, peekL, opn_bv, opn_var, opn_con, opn_glo, opn_tup, opn_lst, opn_bin, opn_sub, opn_att, opn_bi1, opn_call, opn_callK, opn_cmp, opn_ss, opn_sl, cmpM, subM, subB, attM, unaM, setSlot, setSlots, setV, setT, setTs, doCall, mutF, tst, andThen, ofO_s, leafD_l, tr_b, env_call, env_fn, env_wf, env_glob, conD, rtM, itD_l, itD_t, isiD]
def sumC (ws : List Tr) : Nat := (ws.map Tr.cnt).sum
theorem sumC_ge : ∀ ws : List Tr, ws.length ≤ sumC ws
  | [] => Nat.le_refl _
  | w :: ws => by
    have := sumC_ge ws
    have := w.cnt_pos
    simp [sumC] at *
    omega
theorem leaves_loop (hm : 1 ≤ m) {x : Slot} : ∀ (k : Nat) {ws : List Tr} {found : List D} {y : Slot}, 2 * sumC ws < k + ws.length → found.length + ws.length ≤ 40 → (∀ w ∈ ws, w.ok ∧ w.dep ≤ 50) →
    ∃ L', (found.length + sumC ws ≤ 40 → (∃ y', L' = [x, .own (.fl (found ++ ws.flatMap Tr.lv)), .own (.fl []), y']) ∧ whileM (tst (G m) c12_0) (execs (G m) s12_3) k ⟨[x, .own (.fl found), .own (.fl (ws.map Tr.d).reverse), y], S⟩ = some (.nx, ⟨L', S⟩)) ∧
      (40 < found.length + sumC ws → whileM (tst (G m) c12_0) (execs (G m) s12_3) k ⟨[x, .own (.fl found), .own (.fl (ws.map Tr.d).reverse), y], S⟩ = some (.rt (.leaf .non), ⟨L', S⟩))
  | 0, ws, found, y, h1, _, _ => by have := sumC_ge ws; omega
  | k + 1, [], found, y, h1, h2, _ => by
    refine ⟨[x, .own (.fl found), .own (.fl []), y], fun _ => ⟨⟨y, by simp⟩, ?_⟩, fun h => by simp [sumC] at h h2; omega⟩
    rw [whileM]
    have e := eq_nil (k := 0) (ds := []) (fun d hd => (List.not_mem_nil hd).elim) (by omega)
    simp [c12_0, exec, execs, den, dens, denB, denAs, denKs, denIt, denIfs, denEO, denOE, denOEs, denF, bnd, ret, readVar, peek, peekO, peekL, opn_bv, opn_var, opn_con, opn_glo, opn_tup, opn_lst, opn_bin, opn_sub, opn_att, opn_bi1, opn_call, opn_callK, opn_cmp, opn_ss, opn_sl, cmpM, subM, subB, attM, unaM, setSlot, setSlots, setV, setT, setTs, doCall, mutF, tst, andThen, ofO_s, leafD_l, tr_b, env_call, env_fn, env_wf, env_glob, conD, rtM, itD_l, itD_t, OD.toD, cmpD, e]
  | k + 1, w :: ws, found, y, h1, h2, hw => by
    have hgd : ∀ d ∈ ((w :: ws).map Tr.d).reverse, gd 55 d := fun d hd => by
      rw [List.mem_reverse] at hd
      obtain ⟨t, ht, rfl⟩ := List.mem_map.mp hd
      exact (Tr.gd (hw t ht).1).mono (by have := (hw t ht).2; omega)
    have hrev : ((w :: ws).map Tr.d).reverse = (ws.map Tr.d).reverse ++ [w.d] := by simp
    have e0 := eq_nil hgd (by omega)
    have e1 : tst (G m) c12_0 ⟨[x, .own (.fl found), .own (.fl ((w :: ws).map Tr.d).reverse), y], S⟩ = some (true, ⟨[x, .own (.fl found), .own (.fl ((w :: ws).map Tr.d).reverse), y], S⟩) := by
      have : ((w :: ws).map Tr.d).reverse.isEmpty = false := by rw [hrev]; simp
      rw [this] at e0
      generalize ((w :: ws).map Tr.d).reverse = zs at *
      simp [c12_0, exec, execs, den, dens, denB, denAs, denKs, denIt, denIfs, denEO, denOE, denOEs, denF, bnd, ret, readVar, peek, peekO, peekL, opn_bv, opn_var, opn_con, opn_glo, opn_tup, opn_lst, opn_bin, opn_sub, opn_att, opn_bi1, opn_call, opn_callK, opn_cmp, opn_ss, opn_sl, cmpM, subM, subB, attM, unaM, setSlot, setSlots, setV, setT, setTs, doCall, mutF, tst, andThen, ofO_s, leafD_l, tr_b, env_call, env_fn, env_wf, env_glob, conD, rtM, itD_l, itD_t, OD.toD, cmpD, e0]
    have hs : ∀ {s2 : St} {fl : Fl} {L' : List Slot}, execs (G m) s12_3 ⟨[x, .own (.fl found), .own (.fl ((w :: ws).map Tr.d).reverse), y], S⟩ = some (.nx, s2) → whileM (tst (G m) c12_0) (execs (G m) s12_3) k s2 = some (fl, ⟨L', S⟩) →
        whileM (tst (G m) c12_0) (execs (G m) s12_3) (k + 1) ⟨[x, .own (.fl found), .own (.fl ((w :: ws).map Tr.d).reverse), y], S⟩ = some (fl, ⟨L', S⟩) := by
      intro s2 fl L' g1 g2
      rw [whileM, bnd_ok e1]
      simp only [if_true, turnEnd, bnd_ok g1, g2]
    have p1 : exec (G m) u12_0 ⟨[x, .own (.fl found), .own (.fl ((w :: ws).map Tr.d).reverse), y], S⟩ = some (.nx, ⟨[x, .own (.fl found), .own (.fl (ws.map Tr.d).reverse), .val w.d], S⟩) := by
      rw [u12_0, exec, denOE, hrev, bnd_ok (bnd_ok (v_mth0 rfl mm_last))]
      rfl
    have tp : ∀ {fd wt : List D} {t : Tr}, t.ok → tst (G m) (.call 11 "is_pair" (P 63 11 18) (.share 3 "part" (P 63 19 23) .nil) (P 63 11 24)) ⟨[x, .own (.fl fd), .own (.fl wt), .val t.d], S⟩ = some (t.isNd, ⟨[x, .own (.fl fd), .own (.fl wt), .val t.d], S⟩) := by
      intro fd wt t ht
      have p2 := sp11 (m := m) (S := S) hm ht
      simp [exec, execs, den, dens, denB, denAs, denKs, denIt, denIfs, denEO, denOE, denOEs, denF, bnd, ret, readVar, peek, peekO, peekL, opn_bv, opn_var, opn_con, opn_glo, opn_tup, opn_lst, opn_bin, opn_sub, opn_att, opn_bi1, opn_call, opn_callK, opn_cmp, opn_ss, opn_sl, cmpM, subM, subB, attM, unaM, setSlot, setSlots, setV, setT, setTs, doCall, mutF, tst, andThen, ofO_s, leafD_l, tr_b, env_call, env_fn, env_wf, env_glob, conD, rtM, itD_l, itD_t, p2]
    have eg : Pr.glob 1 = some (.int 40) := rfl
    have last : ∀ {fd wt : List D} {y : Slot}, fd.length + wt.length ≤ 40 → execs (G m) (.cons u12_5 .nil) ⟨[x, .own (.fl fd), .own (.fl wt), y], S⟩ = some (.nx, ⟨[x, .own (.fl fd), .own (.fl wt), y], S⟩) := by
      intro fd wt y hle
      have c1 : cmpD .Gt (.int (fd.length + wt.length)) (.int 40) = some (.bl false) := by simp [cmpD, cmpI]; omega
      rw [r_nx (s1 := ⟨[x, .own (.fl fd), .own (.fl wt), y], S⟩)]
      · rfl
      · simp [u12_5, exec, execs, den, dens, denB, denAs, denKs, denIt, denIfs, denEO, denOE, denOEs, denF, bnd, ret, readVar, peek, peekO, peekL, opn_bv, opn_var, opn_con, opn_glo, opn_tup, opn_lst, opn_bin, opn_sub, opn_att, opn_bi1, opn_call, opn_callK, opn_cmp, opn_ss, opn_sl, cmpM, subM, subB, attM, unaM, setSlot, setSlots, setV, setT, setTs, doCall, mutF, tst, andThen, ofO_s, leafD_l, tr_b, env_call, env_fn, env_wf, env_glob, conD, rtM, itD_l, itD_t, OD.toD, b1L, bAdd, eg, c1]
    have last' : ∀ {fd wt : List D} {y : Slot}, 40 < fd.length + wt.length → execs (G m) (.cons u12_5 .nil) ⟨[x, .own (.fl fd), .own (.fl wt), y], S⟩ = some (.rt (.leaf .non), ⟨[x, .own (.fl fd), .own (.fl wt), y], S⟩) := by
      intro fd wt y hle
      have c1 : cmpD .Gt (.int (fd.length + wt.length)) (.int 40) = some (.bl true) := by simp [cmpD, cmpI]; omega
      rw [r_rt]
      simp [u12_5, u12_4, exec, execs, den, dens, denB, denAs, denKs, denIt, denIfs, denEO, denOE, denOEs, denF, bnd, ret, readVar, peek, peekO, peekL, opn_bv, opn_var, opn_con, opn_glo, opn_tup, opn_lst, opn_bin, opn_sub, opn_att, opn_bi1, opn_call, opn_callK, opn_cmp, opn_ss, opn_sl, cmpM, subM, subB, attM, unaM, setSlot, setSlots, setV, setT, setTs, doCall, mutF, tst, andThen, ofO_s, leafD_l, tr_b, env_call, env_fn, env_wf, env_glob, conD, rtM, itD_l, itD_t, OD.toD, b1L, bAdd, eg, c1, s12_2]
    cases w with
    | lf d =>
      obtain ⟨L', q1, q2⟩ := leaves_loop hm (x := x) k (ws := ws) (found := found ++ [d]) (y := .val d) (by simp [sumC, Tr.cnt] at h1 ⊢; omega) (by simp at h2 ⊢; omega) (fun w hw' => hw w (List.mem_cons_of_mem _ hw'))
      have body : execs (G m) s12_3 ⟨[x, .own (.fl found), .own (.fl ((Tr.lf d :: ws).map Tr.d).reverse), y], S⟩ = some (.nx, ⟨[x, .own (.fl (found ++ [d])), .own (.fl (ws.map Tr.d).reverse), .val d], S⟩) := by
        unfold s12_3
        rw [r_nx p1]
        rw [r_nx (s1 := ⟨[x, .own (.fl (found ++ [d])), .own (.fl (ws.map Tr.d).reverse), .val d], S⟩)]
        · exact last (by simp at h2 ⊢; omega)
        · have h3 : exec (G m) u12_2 ⟨[x, .own (.fl found), .own (.fl (ws.map Tr.d).reverse), .val d], S⟩ = some (.nx, ⟨[x, .own (.fl (found ++ [d])), .own (.fl (ws.map Tr.d).reverse), .val d], S⟩) :=
            x_exp (v_mth1 (L1 := [x, .own (.fl found), .own (.fl (ws.map Tr.d).reverse), .val d]) (S1 := S) (a := d) rfl rfl rfl (mm_append (by simp at h2; omega)))
          rw [u12_3, exec, bnd_ok (tp (t := .lf d) (hw _ List.mem_cons_self).1), Tr.isNd, if_neg (by simp), s12_1, Tr.d, r_nx h3]
          rfl
      refine ⟨L', fun hc => ?_, fun hc => ?_⟩
      · obtain ⟨⟨y', g1⟩, g2⟩ := q1 (by simp [sumC, Tr.cnt] at hc ⊢; omega)
        exact ⟨⟨y', by rw [g1]; simp [Tr.lv]⟩, hs body g2⟩
      · exact hs body (q2 (by simp [sumC, Tr.cnt] at hc ⊢; omega))
    | nd a b =>
      have ab := hw (.nd a b) List.mem_cons_self
      have body : ∀ {z : Option (Fl × St)}, execs (G m) (.cons u12_5 .nil) ⟨[x, .own (.fl found), .own (.fl ((b :: a :: ws).map Tr.d).reverse), .val (Tr.nd a b).d], S⟩ = z → execs (G m) s12_3 ⟨[x, .own (.fl found), .own (.fl ((Tr.nd a b :: ws).map Tr.d).reverse), y], S⟩ = z := by
        intro z hz
        unfold s12_3
        rw [r_nx p1]
        rw [r_nx (s1 := ⟨[x, .own (.fl found), .own (.fl ((b :: a :: ws).map Tr.d).reverse), .val (Tr.nd a b).d], S⟩)]
        · exact hz
        · have hrev2 : ((b :: a :: ws).map Tr.d).reverse = (ws.map Tr.d).reverse ++ [a.d, b.d] := by simp
          have h3 : exec (G m) u12_1 ⟨[x, .own (.fl found), .own (.fl (ws.map Tr.d).reverse), .val (Tr.nd a b).d], S⟩ = some (.nx, ⟨[x, .own (.fl found), .own (.fl ((ws.map Tr.d).reverse ++ [a.d, b.d])), .val (Tr.nd a b).d], S⟩) :=
            x_exp (v_mth1 (L1 := [x, .own (.fl found), .own (.fl (ws.map Tr.d).reverse), .val (Tr.nd a b).d]) (S1 := S) (a := (Tr.nd a b).d) rfl rfl rfl (mm_ext rfl (by simp at h2 ⊢; omega)))
          rw [u12_3, exec, bnd_ok (tp (t := .nd a b) ab.1), Tr.isNd, if_pos rfl, s12_0, hrev2, r_nx h3]
          rfl
      by_cases hc0 : found.length + (ws.length + 2) ≤ 40
      · obtain ⟨L', q1, q2⟩ := leaves_loop hm (x := x) k (ws := b :: a :: ws) (found := found) (y := .val (Tr.nd a b).d) (by simp [sumC, Tr.cnt] at h1 ⊢; omega) (by simp at h2 ⊢; omega) (fun w hw' => by
          have hd := ab.2
          rw [Tr.dep] at hd
          rcases List.mem_cons.mp hw' with rfl | hw'
          · exact ⟨ab.1.2, by omega⟩
          · rcases List.mem_cons.mp hw' with rfl | hw'
            · exact ⟨ab.1.1, by omega⟩
            · exact hw w (List.mem_cons_of_mem _ hw'))
        have bd := body (last (fd := found) (wt := ((b :: a :: ws).map Tr.d).reverse) (y := .val (Tr.nd a b).d) (by simp; omega))
        refine ⟨L', fun hc => ?_, fun hc => ?_⟩
        · obtain ⟨⟨y', g1⟩, g2⟩ := q1 (by simp [sumC, Tr.cnt] at hc ⊢; omega)
          exact ⟨⟨y', by rw [g1]; simp [Tr.lv]⟩, hs bd g2⟩
        · exact hs bd (q2 (by simp [sumC, Tr.cnt] at hc ⊢; omega))
      · have bd := body (last' (fd := found) (wt := ((b :: a :: ws).map Tr.d).reverse) (y := .val (Tr.nd a b).d) (by simp; omega))
        refine ⟨[x, .own (.fl found), .own (.fl ((b :: a :: ws).map Tr.d).reverse), .val (Tr.nd a b).d], fun hc => ?_, fun hc => ?_⟩
        · have h3 := sumC_ge ws
          have h4 := a.cnt_pos
          have h5 := b.cnt_pos
          simp [sumC, Tr.cnt] at hc h3
          omega
        · rw [whileM, bnd_ok e1]
          simp only [if_true, turnEnd, bnd_ok bd, ret]
theorem sp12 (hm : 2 ≤ m) {t : Tr} (h : t.ok) (hd : t.dep ≤ 50) (hc : t.cnt ≤ 400) : cl m 12 [.val t.d] S = some (.leaf (if t.cnt ≤ 40 then .lst t.lv else .non), S) := by
  obtain ⟨L', q1, q2⟩ := leaves_loop (S := S) (m := m - 1) (by omega) (x := .val t.d) 1000 (ws := [t]) (found := []) (y := .no) (by simp [sumC]; omega) (by simp) (fun w hw => by rw [List.mem_singleton] at hw; subst hw; exact ⟨h, hd⟩)
  have g0 : exec (G (m - 1)) t12_0 ⟨[.val t.d, .no, .no, .no], S⟩ = some (.nx, ⟨[.val t.d, .own (.fl []), .own (.fl [t.d]), .no], S⟩) := by
    simp [t12_0, exec, execs, den, dens, denB, denAs, denKs, denIt, denIfs, denEO, denOE, denOEs, denF, bnd, ret, readVar, peek, peekO, peekL, opn_bv, opn_var, opn_con, opn_glo, opn_tup, opn_lst, opn_bin, opn_sub, opn_att, opn_bi1, opn_call, opn_callK, opn_cmp, opn_ss, opn_sl, cmpM, subM, subB, attM, unaM, setSlot, setSlots, setV, setT, setTs, doCall, mutF, tst, andThen, ofO_s, leafD_l, tr_b, env_call, env_fn, env_wf, env_glob, conD, rtM, itD_l, itD_t, sizeLine]
  by_cases hq : t.cnt ≤ 40
  · obtain ⟨⟨y', rfl⟩, g2⟩ := q1 (by simpa [sumC] using hq)
    rw [if_pos hq]
    refine call_ok (d := d12) rfl (by omega) rfl (L' := [.val t.d, .val (.lst t.lv), .own (.fl []), y']) ?_
    show execs _ (.cons t12_0 (.cons t12_1 (.cons t12_2 .nil))) ⟨[.val t.d, .no, .no, .no], S⟩ = _
    rw [r_nx g0, r_nx (show exec (G (m - 1)) t12_1 _ = _ from by rw [t12_1, exec]; exact g2)]
    refine r_rt ?_
    simp [t12_2, exec, execs, den, dens, denB, denAs, denKs, denIt, denIfs, denEO, denOE, denOEs, denF, bnd, ret, readVar, peek, peekO, peekL, opn_bv, opn_var, opn_con, opn_glo, opn_tup, opn_lst, opn_bin, opn_sub, opn_att, opn_bi1, opn_call, opn_callK, opn_cmp, opn_ss, opn_sl, cmpM, subM, subB, attM, unaM, setSlot, setSlots, setV, setT, setTs, doCall, mutF, tst, andThen, ofO_s, leafD_l, tr_b, env_call, env_fn, env_wf, env_glob, conD, rtM, itD_l, itD_t, OD.toD]
  · have g2 := q2 (by simpa [sumC] using hq)
    rw [if_neg hq]
    refine call_ok (d := d12) rfl (by omega) rfl (L' := L') ?_
    show execs _ (.cons t12_0 (.cons t12_1 (.cons t12_2 .nil))) ⟨[.val t.d, .no, .no, .no], S⟩ = _
    rw [r_nx g0]
    exact r_rt (show exec (G (m - 1)) t12_1 _ = _ from by rw [t12_1, exec]; exact g2)
end K41
end Dm

namespace Dm
open PySem L2
namespace K41
variable {n m : Nat} {S : List OD} {f : Nat → Nat → Nat}
theorem int_beq {a b : Nat} : ((a : Int) == (b : Int)) = (a == b) := by
  rw [Bool.eq_iff_iff, beq_iff_eq, beq_iff_eq]
  omega
def Tr.ml (n : Nat) (t : Tr) : Bool := t.lv.all (isV n)
def Tr.res (f : Nat → Nat → Nat) : Tr → Nat
  | .lf (.int i) => i.toNat
  | .lf _ => 0
  | .nd a b => f (a.res f) (b.res f)
theorem isV_int {d : D} (h : isV n d = true) : ∃ k : Nat, k < n ∧ d = .int k := by
  cases d <;> simp [isV] at h
  rename_i i
  refine ⟨i.toNat, by omega, ?_⟩
  congr 1
  omega
theorem Tr.ml_nd {a b : Tr} : (Tr.nd a b).ml n = (b.ml n && a.ml n) := by
  simp only [Tr.ml, Tr.lv, List.all_append]
theorem Tr.ml_ok : ∀ {t : Tr}, t.ml n = true → t.ok
  | .lf d, h => by
    obtain ⟨k, _, rfl⟩ := isV_int (by simpa [Tr.ml, Tr.lv] using h)
    exact ⟨(fun _ _ z => by cases z), gd_int⟩
  | .nd a b, h => by
    rw [Tr.ml_nd, Bool.and_eq_true] at h
    exact ⟨Tr.ml_ok h.2, Tr.ml_ok h.1⟩
theorem Tr.res_lt (hT : Tb n f) : ∀ {t : Tr}, t.ml n = true → t.res f < n
  | .lf d, h => by
    obtain ⟨k, hk, rfl⟩ := isV_int (by simpa [Tr.ml, Tr.lv] using h)
    simpa [Tr.res] using hk
  | .nd a b, h => by
    rw [Tr.ml_nd, Bool.and_eq_true] at h
    exact hT.in' _ (Tr.res_lt hT h.2) _ (Tr.res_lt hT h.1)
theorem sp13 (hm : 4 ≤ m) {t : Tr} (h : t.ok) (hd : t.dep ≤ 50) (hc : t.cnt ≤ 400) : cl m 13 [.val (tabD n f), .val t.d] S = some (.leaf (.bl (decide (t.cnt ≤ 40) && t.ml n)), S) := by
  have e := sp12 (m := m - 1) (S := S) (by omega) h hd hc
  by_cases hq : t.cnt ≤ 40
  · rw [if_pos hq] at e
    have e2 : den (G (m - 1)) c13_0 ⟨[.val (tabD n f), .val t.d, .val (.lst t.lv), .no], S⟩ = some (.lst (t.lv.map fun d => .bl (isV n d)), ⟨[.val (tabD n f), .val t.d, .val (.lst t.lv), .no], S⟩) := by
      refine comp1p _ (.inl rfl) (it_l rfl) (by rw [Tr.lv_len]; unfold sizeLine; omega) fun v hv => ?_
      have e3 := sp9 (m := m - 1) (n := n) (S := S) (f := f) (by omega) (Tr.lv_ok h v hv)
      simp [exec, execs, den, dens, denB, denAs, denKs, denIt, denIfs, denEO, denOE, denOEs, denF, bnd, ret, readVar, peek, peekO, peekL, opn_bv, opn_var, opn_con, opn_glo, opn_tup, opn_lst, opn_bin, opn_sub, opn_att, opn_bi1, opn_call, opn_callK, opn_cmp, opn_ss, opn_sl, cmpM, subM, subB, attM, unaM, setSlot, setSlots, setV, setT, setTs, doCall, mutF, tst, andThen, ofO_s, leafD_l, tr_b, env_call, env_fn, env_wf, env_glob, conD, rtM, itD_l, itD_t, e3]
    refine call_ok (d := d13) rfl (by omega) rfl (L' := [.val (tabD n f), .val t.d, .val (.lst t.lv), .no]) ?_
    show execs _ (.cons t13_0 (.cons t13_1 .nil)) ⟨[.val (tabD n f), .val t.d, .no, .no], S⟩ = _
    rw [r_nx (s1 := ⟨[.val (tabD n f), .val t.d, .val (.lst t.lv), .no], S⟩) (by simp [t13_0, exec, execs, den, dens, denB, denAs, denKs, denIt, denIfs, denEO, denOE, denOEs, denF, bnd, ret, readVar, peek, peekO, peekL, opn_bv, opn_var, opn_con, opn_glo, opn_tup, opn_lst, opn_bin, opn_sub, opn_att, opn_bi1, opn_call, opn_callK, opn_cmp, opn_ss, opn_sl, cmpM, subM, subB, attM, unaM, setSlot, setSlots, setV, setT, setTs, doCall, mutF, tst, andThen, ofO_s, leafD_l, tr_b, env_call, env_fn, env_wf, env_glob, conD, rtM, itD_l, itD_t, e])]
    refine r_rt ?_
    have ho : ∀ mm, opn mm c13_0 = mm := fun _ => rfl
    simp [t13_1, exec, execs, den, dens, denB, denAs, denKs, denIt, denIfs, denEO, denOE, denOEs, denF, bnd, ret, readVar, peek, peekO, peekL, opn_bv, opn_var, opn_con, opn_glo, opn_tup, opn_lst, opn_bin, opn_sub, opn_att, opn_bi1, opn_call, opn_callK, opn_cmp, opn_ss, opn_sl, cmpM, subM, subB, attM, unaM, setSlot, setSlots, setV, setT, setTs, doCall, mutF, tst, andThen, ofO_s, leafD_l, tr_b, env_call, env_fn, env_wf, env_glob, conD, rtM, itD_l, itD_t, cmpD, isD, ho, e2, allBl_map, hq, Tr.ml]
  · rw [if_neg hq] at e
    refine call_ok (d := d13) rfl (by omega) rfl (L' := [.val (tabD n f), .val t.d, .val .non, .no]) ?_
    show execs _ (.cons t13_0 (.cons t13_1 .nil)) ⟨[.val (tabD n f), .val t.d, .no, .no], S⟩ = _
    rw [r_nx (s1 := ⟨[.val (tabD n f), .val t.d, .val .non, .no], S⟩) (by simp [t13_0, exec, execs, den, dens, denB, denAs, denKs, denIt, denIfs, denEO, denOE, denOEs, denF, bnd, ret, readVar, peek, peekO, peekL, opn_bv, opn_var, opn_con, opn_glo, opn_tup, opn_lst, opn_bin, opn_sub, opn_att, opn_bi1, opn_call, opn_callK, opn_cmp, opn_ss, opn_sl, cmpM, subM, subB, attM, unaM, setSlot, setSlots, setV, setT, setTs, doCall, mutF, tst, andThen, ofO_s, leafD_l, tr_b, env_call, env_fn, env_wf, env_glob, conD, rtM, itD_l, itD_t, e])]
    refine r_rt ?_
    simp [t13_1, exec, execs, den, dens, denB, denAs, denKs, denIt, denIfs, denEO, denOE, denOEs, denF, bnd, ret, readVar, peek, peekO, peekL, opn_bv, opn_var, opn_con, opn_glo, opn_tup, opn_lst, opn_bin, opn_sub, opn_att, opn_bi1, opn_call, opn_callK, opn_cmp, opn_ss, opn_sl, cmpM, subM, subB, attM, unaM, setSlot, setSlots, setV, setT, setTs, doCall, mutF, tst, andThen, ofO_s, leafD_l, tr_b, env_call, env_fn, env_wf, env_glob, conD, rtM, itD_l, itD_t, cmpD, isD, hq]
theorem sp14 (hT : Tb n f) : ∀ {t : Tr} {m : Nat}, t.ml n = true → t.dep + 2 ≤ m → cl m 14 [.val (tabD n f), .val t.d] S = some (.leaf (.int (t.res f)), S)
  | .lf d, m, h, hm => by
    have e := sp11 (m := m - 1) (S := S) (by omega) (Tr.ml_ok h)
    obtain ⟨k, hk, rfl⟩ := isV_int (by simpa [Tr.ml, Tr.lv] using h)
    refine call_ok (d := d14) rfl (by omega) rfl (L' := [.val (tabD n f), .val (.int k)]) ?_
    show execs _ (.cons t14_0 (.cons t14_1 .nil)) ⟨[.val (tabD n f), .val (.int k)], S⟩ = _
    simp only [Tr.isNd, Tr.d] at e
    rw [r_nx (s1 := ⟨[.val (tabD n f), .val (.int k)], S⟩) (by simp [t14_0, exec, execs, den, dens, denB, denAs, denKs, denIt, denIfs, denEO, denOE, denOEs, denF, bnd, ret, readVar, peek, peekO, peekL, opn_bv, opn_var, opn_con, opn_glo, opn_tup, opn_lst, opn_bin, opn_sub, opn_att, opn_bi1, opn_call, opn_callK, opn_cmp, opn_ss, opn_sl, cmpM, subM, subB, attM, unaM, setSlot, setSlots, setV, setT, setTs, doCall, mutF, tst, andThen, ofO_s, leafD_l, tr_b, env_call, env_fn, env_wf, env_glob, conD, rtM, itD_l, itD_t, e])]
    refine r_rt ?_
    simp [t14_1, exec, execs, den, dens, denB, denAs, denKs, denIt, denIfs, denEO, denOE, denOEs, denF, bnd, ret, readVar, peek, peekO, peekL, opn_bv, opn_var, opn_con, opn_glo, opn_tup, opn_lst, opn_bin, opn_sub, opn_att, opn_bi1, opn_call, opn_callK, opn_cmp, opn_ss, opn_sl, cmpM, subM, subB, attM, unaM, setSlot, setSlots, setV, setT, setTs, doCall, mutF, tst, andThen, ofO_s, leafD_l, tr_b, env_call, env_fn, env_wf, env_glob, conD, rtM, itD_l, itD_t, Tr.res]
  | .nd a b, m, h, hm => by
    have e := sp11 (m := m - 1) (S := S) (by omega) (Tr.ml_ok h)
    rw [Tr.ml_nd, Bool.and_eq_true] at h
    rw [Tr.dep] at hm
    have ea := sp14 hT (t := a) (m := m - 1) h.2 (by omega)
    have eb := sp14 hT (t := b) (m := m - 1) h.1 (by omega)
    have la := Tr.res_lt hT h.2
    have lb := Tr.res_lt hT h.1
    refine call_ok (d := d14) rfl (by omega) rfl (L' := [.val (tabD n f), .val (.tup [a.d, b.d])]) ?_
    show execs _ (.cons t14_0 (.cons t14_1 .nil)) ⟨[.val (tabD n f), .val (.tup [a.d, b.d])], S⟩ = _
    simp only [Tr.isNd, Tr.d] at e
    have e3 : attO Pr.fn 0 "own_rows" (.leaf (tabD n f)) = some (.tup (tupsL n f)) := att_own
    have i0 : ixD (.tup [a.d, b.d]) (.int 0) = some a.d := rfl
    have i1 : ixD (.tup [a.d, b.d]) (.int 1) = some b.d := rfl
    have i2 := ix_t (tupsL_at (f := f) la)
    have i3 := ix_t (rowL_at (g := f (a.res f)) lb)
    refine r_rt ?_
    simp [t14_0, s14_0, u14_0, exec, execs, den, dens, denB, denAs, denKs, denIt, denIfs, denEO, denOE, denOEs, denF, bnd, ret, readVar, peek, peekO, peekL, opn_bv, opn_var, opn_con, opn_glo, opn_tup, opn_lst, opn_bin, opn_sub, opn_att, opn_bi1, opn_call, opn_callK, opn_cmp, opn_ss, opn_sl, cmpM, subM, subB, attM, unaM, setSlot, setSlots, setV, setT, setTs, doCall, mutF, tst, andThen, ofO_s, leafD_l, tr_b, env_call, env_fn, env_wf, env_glob, conD, rtM, itD_l, itD_t, e, e3, i0, i1, i2, i3, ea, eb, Tr.res]
theorem sp15 (hT : Tb n f) {t : Tr} (h : t.ml n = true) (hd : t.dep ≤ 50) (hc : t.cnt ≤ 40) (hm : t.dep + 5 ≤ m) : cl m 15 [.val (tabD n f), .val t.d] S = some (.leaf (.int (t.res f)), S) := by
  have e1 := sp13 (m := m - 1) (n := n) (f := f) (S := S) (by omega) (Tr.ml_ok h) hd (by omega)
  have e2 := sp14 (m := m - 1) (S := S) hT h (by omega)
  rw [h] at e1
  refine call_ok (d := d15) rfl (by omega) rfl (L' := [.val (tabD n f), .val t.d]) ?_
  show execs _ (.cons t15_0 (.cons t15_1 .nil)) ⟨[.val (tabD n f), .val t.d], S⟩ = _
  rw [r_nx (s1 := ⟨[.val (tabD n f), .val t.d], S⟩) (by simp [t15_0, exec, execs, den, dens, denB, denAs, denKs, denIt, denIfs, denEO, denOE, denOEs, denF, bnd, ret, readVar, peek, peekO, peekL, opn_bv, opn_var, opn_con, opn_glo, opn_tup, opn_lst, opn_bin, opn_sub, opn_att, opn_bi1, opn_call, opn_callK, opn_cmp, opn_ss, opn_sl, cmpM, subM, subB, attM, unaM, setSlot, setSlots, setV, setT, setTs, doCall, mutF, tst, andThen, ofO_s, leafD_l, tr_b, env_call, env_fn, env_wf, env_glob, conD, rtM, itD_l, itD_t, e1, hc])]
  refine r_rt ?_
  simp [t15_1, exec, execs, den, dens, denB, denAs, denKs, denIt, denIfs, denEO, denOE, denOEs, denF, bnd, ret, readVar, peek, peekO, peekL, opn_bv, opn_var, opn_con, opn_glo, opn_tup, opn_lst, opn_bin, opn_sub, opn_att, opn_bi1, opn_call, opn_callK, opn_cmp, opn_ss, opn_sl, cmpM, subM, subB, attM, unaM, setSlot, setSlots, setV, setT, setTs, doCall, mutF, tst, andThen, ofO_s, leafD_l, tr_b, env_call, env_fn, env_wf, env_glob, conD, rtM, itD_l, itD_t, e2]
/-! ### partings -/
def intsD (ds : List D) : List Int := ds.filterMap fun | .int i => some i | _ => none
theorem allI_ml : ∀ {ds : List D}, ds.all (isV n) = true → allI ds = some (intsD ds) ∧ (intsD ds).length = ds.length
  | [], _ => ⟨rfl, rfl⟩
  | d :: ds, h => by
    rw [List.all_cons, Bool.and_eq_true] at h
    obtain ⟨k, hk, rfl⟩ := isV_int h.1
    obtain ⟨h1, h2⟩ := allI_ml h.2
    refine ⟨?_, ?_⟩
    · rw [allI, h1]; rfl
    · show (_ :: intsD ds).length = _
      rw [List.length_cons, h2, List.length_cons]
def isP (n : Nat) (f : Nat → Nat → Nat) : Tr → Bool
  | .lf _ => false
  | .nd a b => (decide (a.cnt ≤ 40) && a.ml n) && (decide (b.cnt ≤ 40) && b.ml n) && (ssI (intsD a.lv) == ssI (intsD b.lv)) && !(a.res f == b.res f)
theorem sp20 (hT : Tb n f) {t : Tr} (h : t.ok) (hd : t.dep ≤ 50) (hc : t.cnt ≤ 400) (hm : t.dep + 5 ≤ m) : cl m 20 [.val (tabD n f), .val t.d] S = some (.leaf (.bl (isP n f t)), S) := by
  have e := sp11 (m := m - 1) (S := S) (by omega) h
  refine call_ok (d := d20) rfl (by omega) rfl (L' := [.val (tabD n f), .val t.d]) ?_
  show execs _ (.cons t20_0 (.cons t20_1 (.cons t20_2 .nil))) ⟨[.val (tabD n f), .val t.d], S⟩ = _
  cases t with
  | lf d =>
    simp only [Tr.isNd] at e
    refine r_rt ?_
    simp [t20_0, s20_0, u20_0, exec, execs, den, dens, denB, denAs, denKs, denIt, denIfs, denEO, denOE, denOEs, denF, bnd, ret, readVar, peek, peekO, peekL, opn_bv, opn_var, opn_con, opn_glo, opn_tup, opn_lst, opn_bin, opn_sub, opn_att, opn_bi1, opn_call, opn_callK, opn_cmp, opn_ss, opn_sl, cmpM, subM, subB, attM, unaM, setSlot, setSlots, setV, setT, setTs, doCall, mutF, tst, andThen, ofO_s, leafD_l, tr_b, env_call, env_fn, env_wf, env_glob, conD, rtM, itD_l, itD_t, e, isP]
  | nd a b =>
    simp only [Tr.isNd] at e
    rw [Tr.dep] at hd hm
    rw [Tr.cnt] at hc
    have ca := sp13 (m := m - 1) (n := n) (f := f) (S := S) (by omega) h.1 (by omega) (by omega)
    have cb := sp13 (m := m - 1) (n := n) (f := f) (S := S) (by omega) h.2 (by omega) (by omega)
    have i0 : ixD (Tr.nd a b).d (.int 0) = some a.d := rfl
    have i1 : ixD (Tr.nd a b).d (.int 1) = some b.d := rfl
    generalize hA : (decide (a.cnt ≤ 40) && a.ml n) = A at *
    generalize hB : (decide (b.cnt ≤ 40) && b.ml n) = B at *
    cases A with
    | false =>
      refine r_rt ?_
      simp [t20_0, s20_0, u20_0, exec, execs, den, dens, denB, denAs, denKs, denIt, denIfs, denEO, denOE, denOEs, denF, bnd, ret, readVar, peek, peekO, peekL, opn_bv, opn_var, opn_con, opn_glo, opn_tup, opn_lst, opn_bin, opn_sub, opn_att, opn_bi1, opn_call, opn_callK, opn_cmp, opn_ss, opn_sl, cmpM, subM, subB, attM, unaM, setSlot, setSlots, setV, setT, setTs, doCall, mutF, tst, andThen, ofO_s, leafD_l, tr_b, env_call, env_fn, env_wf, env_glob, conD, rtM, itD_l, itD_t, e, isP, hA, i0, ca]
    | true =>
      cases B with
      | false =>
        refine r_rt ?_
        simp [t20_0, s20_0, u20_0, exec, execs, den, dens, denB, denAs, denKs, denIt, denIfs, denEO, denOE, denOEs, denF, bnd, ret, readVar, peek, peekO, peekL, opn_bv, opn_var, opn_con, opn_glo, opn_tup, opn_lst, opn_bin, opn_sub, opn_att, opn_bi1, opn_call, opn_callK, opn_cmp, opn_ss, opn_sl, cmpM, subM, subB, attM, unaM, setSlot, setSlots, setV, setT, setTs, doCall, mutF, tst, andThen, ofO_s, leafD_l, tr_b, env_call, env_fn, env_wf, env_glob, conD, rtM, itD_l, itD_t, e, isP, hA, hB, i0, i1, ca, cb]
      | true =>
        rw [r_nx (s1 := ⟨[.val (tabD n f), .val (Tr.nd a b).d], S⟩) (by simp [t20_0, s20_0, u20_0, exec, execs, den, dens, denB, denAs, denKs, denIt, denIfs, denEO, denOE, denOEs, denF, bnd, ret, readVar, peek, peekO, peekL, opn_bv, opn_var, opn_con, opn_glo, opn_tup, opn_lst, opn_bin, opn_sub, opn_att, opn_bi1, opn_call, opn_callK, opn_cmp, opn_ss, opn_sl, cmpM, subM, subB, attM, unaM, setSlot, setSlots, setV, setT, setTs, doCall, mutF, tst, andThen, ofO_s, leafD_l, tr_b, env_call, env_fn, env_wf, env_glob, conD, rtM, itD_l, itD_t, e, hA, hB, i0, i1, ca, cb])]
        rw [Bool.and_eq_true, decide_eq_true_eq] at hA hB
        have la := sp12 (m := m - 1) (S := S) (by omega) h.1 (by omega) (by omega)
        have lb := sp12 (m := m - 1) (S := S) (by omega) h.2 (by omega) (by omega)
        rw [if_pos hA.1] at la
        rw [if_pos hB.1] at lb
        obtain ⟨ia, za⟩ := allI_ml hA.2
        obtain ⟨ib, zb⟩ := allI_ml hB.2
        rw [Tr.lv_len] at za zb
        have es : sneD (.lst a.lv) (.lst b.lv) = some (.bl (!(ssI (intsD a.lv) == ssI (intsD b.lv)))) := by
          unfold sneD
          simp only [ia, ib]
          rw [if_pos (by omega)]
        have ra := sp14 (m := m - 1) (S := S) hT hA.2 (by omega)
        have rb := sp14 (m := m - 1) (S := S) hT hB.2 (by omega)
        have ec : cmpD .NotEq (.int (a.res f)) (.int (b.res f)) = some (.bl (!(a.res f == b.res f))) := by
          simp only [cmpD, eq_int, Option.map_some, int_beq]
        cases hS : (ssI (intsD a.lv) == ssI (intsD b.lv)) with
        | false =>
          rw [hS] at es
          refine r_rt ?_
          simp only [t20_1, s20_1, u20_1, exec, execs, den, dens, denB, denAs, denKs, denIt, denIfs, denEO, denOE, denOEs, denF, bnd, ret, readVar, peek, peekO, peekL, opn_bv, opn_var, opn_con, opn_glo, opn_tup, opn_lst, opn_bin, opn_sub, opn_att, opn_bi1, opn_call, opn_callK, opn_cmp, opn_ss, opn_sl, cmpM, subM, subB, attM, unaM, setSlot, setSlots, setV, setT, setTs, doCall, mutF, tst, andThen, ofO_s, leafD_l, tr_b, env_call, env_fn, env_wf, env_glob, conD, rtM, itD_l, itD_t, i0, i1, la, lb, es, isP, hS, List.getElem?_cons_zero, List.getElem?_cons_succ, Bool.not_false, if_true, Bool.and_false, Bool.false_and]
        | true =>
          rw [hS] at es
          rw [r_nx (s1 := ⟨[.val (tabD n f), .val (Tr.nd a b).d], S⟩) (by simp only [t20_1, s20_1, u20_1, exec, execs, den, dens, denB, denAs, denKs, denIt, denIfs, denEO, denOE, denOEs, denF, bnd, ret, readVar, peek, peekO, peekL, opn_bv, opn_var, opn_con, opn_glo, opn_tup, opn_lst, opn_bin, opn_sub, opn_att, opn_bi1, opn_call, opn_callK, opn_cmp, opn_ss, opn_sl, cmpM, subM, subB, attM, unaM, setSlot, setSlots, setV, setT, setTs, doCall, mutF, tst, andThen, ofO_s, leafD_l, tr_b, env_call, env_fn, env_wf, env_glob, conD, rtM, itD_l, itD_t, i0, i1, la, lb, es, List.getElem?_cons_zero, List.getElem?_cons_succ, Bool.not_true, if_false, Bool.false_eq_true])]
          refine r_rt ?_
          simp only [t20_2, exec, execs, den, dens, denB, denAs, denKs, denIt, denIfs, denEO, denOE, denOEs, denF, bnd, ret, readVar, peek, peekO, peekL, opn_bv, opn_var, opn_con, opn_glo, opn_tup, opn_lst, opn_bin, opn_sub, opn_att, opn_bi1, opn_call, opn_callK, opn_cmp, opn_ss, opn_sl, cmpM, subM, subB, attM, unaM, setSlot, setSlots, setV, setT, setTs, doCall, mutF, tst, andThen, ofO_s, leafD_l, tr_b, env_call, env_fn, env_wf, env_glob, conD, rtM, itD_l, itD_t, i0, i1, ra, rb, ec, isP, hS, hA.1, hB.1, hA.2, hB.2, List.getElem?_cons_zero, List.getElem?_cons_succ, decide_true, Bool.true_and]
end K41
end Dm

namespace Dm
open PySem L2
namespace K41
variable {n m : Nat} {S : List OD} {f : Nat → Nat → Nat}
/-- its ends, from the left -/
def Tr.vl : Tr → List D
  | .lf d => [d]
  | .nd a b => a.vl ++ b.vl
theorem Tr.vl_len : ∀ t : Tr, t.vl.length = t.cnt
  | .lf _ => rfl
  | .nd a b => by rw [Tr.vl, Tr.cnt, List.length_append, Tr.vl_len, Tr.vl_len]
theorem Tr.vl_mem {d : D} : ∀ {t : Tr}, d ∈ t.vl ↔ d ∈ t.lv
  | .lf _ => Iff.rfl
  | .nd a b => by rw [Tr.vl, Tr.lv, List.mem_append, List.mem_append, Tr.vl_mem, Tr.vl_mem]; exact Or.comm
theorem Tr.vl_all {t : Tr} : t.vl.all (isV n) = t.ml n := by
  rw [Tr.ml, Bool.eq_iff_iff, List.all_eq_true, List.all_eq_true]
  exact ⟨fun h d hd => h d (Tr.vl_mem.mpr hd), fun h d hd => h d (Tr.vl_mem.mp hd)⟩
theorem intsD_mem {ds : List D} {i : Int} : i ∈ intsD ds ↔ D.int i ∈ ds := by
  unfold intsD
  rw [List.mem_filterMap]
  constructor
  · rintro ⟨d, h1, h2⟩
    cases d <;> simp at h2
    subst h2; exact h1
  · intro h
    exact ⟨_, h, rfl⟩
theorem ss_ext {a b : List Int} (h : ∀ i, i ∈ a ↔ i ∈ b) : ssI a = ssI b := sorted_unique (ssI_sorted _) (ssI_sorted _) fun k => by rw [ssI_mem, ssI_mem]; exact h k
theorem ss_vl {t : Tr} : ssI (intsD t.vl) = ssI (intsD t.lv) := ss_ext fun i => by rw [intsD_mem, intsD_mem, Tr.vl_mem]
theorem it_t {Γ : Env} {i : Nat} {x : Str} {p : Pos} {L : List Slot} {xs : List D} (h : L[i]? = some (.val (.tup xs))) : denIt Γ (.e (.var i x p)) ⟨L, S⟩ = some (xs, ⟨L, S⟩) := by
  simp only [denIt, den, bnd, readVar, h, itD, ofO_s, ret]
theorem comp2 {Γ : Env} {elt : E} {it : Wk} {sc : Scope} {q p : Pos} {x y : Str} {i : Nat} {L : List Slot} {d1 d2 r1 r2 : D} (hb : L[i]? = some .no ∨ ∃ d, L[i]? = some (.val d)) (hit : denIt Γ it ⟨L, S⟩ = some ([d1, d2], ⟨L, S⟩))
    (h1 : den Γ elt ⟨L.set i (.val d1), S⟩ = some (r1, ⟨L.set i (.val d1), S⟩)) (h2 : den Γ elt ⟨L.set i (.val d2), S⟩ = some (r2, ⟨L.set i (.val d2), S⟩)) :
    den Γ (.comp elt (.nm i x p) it .nil sc [(y, i)] q) ⟨L, S⟩ = some (.lst [r1, r2], ⟨L, S⟩) := by
  have z := comp1p (elt := elt) (x := x) (p := p) (sc := sc) (y := y) (q := q) (fun v => match den Γ elt ⟨L.set i (.val v), S⟩ with | some (r, _) => r | none => .non) hb hit (by simp [sizeLine]) fun v hv => by
    rcases List.mem_cons.mp hv with rfl | hv
    · simp only [h1]
    · rw [List.mem_singleton] at hv; subst hv
      simp only [h2]
  rw [z]
  simp only [List.map_cons, List.map_nil, h1, h2]
theorem eqv_ints : ∀ {xs ys : List Int}, PyData.eqvAll (D.pys (xs.map D.int)) (D.pys (ys.map D.int)) = (xs == ys)
  | [], [] => by simp [D.pys, PyData.eqvAll]
  | [], _ :: _ => by simp [D.pys, PyData.eqvAll]
  | _ :: _, [] => by simp [D.pys, PyData.eqvAll]
  | x :: xs, y :: ys => by
    rw [List.map_cons, List.map_cons, D.pys, D.pys, PyData.eqvAll, eqv_ints, D.py, D.py, PyData.eqv]
    simp [List.cons_beq_cons]
theorem eq_ints {xs ys : List Int} : eqD (.lst (xs.map D.int)) (.lst (ys.map D.int)) = some (xs == ys) := by
  have hg : ∀ zs : List Int, gd 1 (.lst (zs.map D.int)) := fun zs => gd_lst fun d hd => by
    obtain ⟨i, _, rfl⟩ := List.mem_map.mp hd
    exact gd_int
  rw [eqD_gd (hg xs) (hg ys) (by omega) (by omega), D.py, D.py, PyData.eqv, eqv_ints]
theorem values_loop {x : Slot} : ∀ (k : Nat) {ws : List Tr} {found : List D} {y : Slot}, 2 * sumC ws < k + ws.length → found.length + sumC ws ≤ 400 → (∀ w ∈ ws, w.ml n = true ∧ w.dep ≤ 50) →
    ∃ y', whileM (tst (G m) c29_0) (execs (G m) s29_2) k ⟨[x, .own (.fl found), .own (.fl (ws.map Tr.d).reverse), y], S⟩ = some (.nx, ⟨[x, .own (.fl (found ++ ws.flatMap Tr.vl)), .own (.fl []), y'], S⟩)
  | 0, ws, found, y, h1, _, _ => by have := sumC_ge ws; omega
  | k + 1, [], found, y, h1, h2, _ => by
    refine ⟨y, ?_⟩
    rw [whileM]
    have e := eq_nil (k := 0) (ds := []) (fun d hd => (List.not_mem_nil hd).elim) (by omega)
    simp [c29_0, exec, execs, den, dens, denB, denAs, denKs, denIt, denIfs, denEO, denOE, denOEs, denF, bnd, ret, readVar, peek, peekO, peekL, opn_bv, opn_var, opn_con, opn_glo, opn_tup, opn_lst, opn_bin, opn_sub, opn_att, opn_bi1, opn_call, opn_callK, opn_cmp, opn_ss, opn_sl, cmpM, subM, subB, attM, unaM, setSlot, setSlots, setV, setT, setTs, doCall, mutF, tst, andThen, ofO_s, leafD_l, tr_b, env_call, env_fn, env_wf, env_glob, conD, rtM, itD_l, itD_t, OD.toD, cmpD, e]
  | k + 1, w :: ws, found, y, h1, h2, hw => by
    have hgd : ∀ d ∈ ((w :: ws).map Tr.d).reverse, gd 55 d := fun d hd => by
      rw [List.mem_reverse] at hd
      obtain ⟨t, ht, rfl⟩ := List.mem_map.mp hd
      exact (Tr.gd (Tr.ml_ok (hw t ht).1)).mono (by have := (hw t ht).2; omega)
    have hrev : ((w :: ws).map Tr.d).reverse = (ws.map Tr.d).reverse ++ [w.d] := by simp
    have e0 := eq_nil hgd (by omega)
    have e1 : tst (G m) c29_0 ⟨[x, .own (.fl found), .own (.fl ((w :: ws).map Tr.d).reverse), y], S⟩ = some (true, ⟨[x, .own (.fl found), .own (.fl ((w :: ws).map Tr.d).reverse), y], S⟩) := by
      have : ((w :: ws).map Tr.d).reverse.isEmpty = false := by rw [hrev]; simp
      rw [this] at e0
      generalize ((w :: ws).map Tr.d).reverse = zs at *
      simp [c29_0, exec, execs, den, dens, denB, denAs, denKs, denIt, denIfs, denEO, denOE, denOEs, denF, bnd, ret, readVar, peek, peekO, peekL, opn_bv, opn_var, opn_con, opn_glo, opn_tup, opn_lst, opn_bin, opn_sub, opn_att, opn_bi1, opn_call, opn_callK, opn_cmp, opn_ss, opn_sl, cmpM, subM, subB, attM, unaM, setSlot, setSlots, setV, setT, setTs, doCall, mutF, tst, andThen, ofO_s, leafD_l, tr_b, env_call, env_fn, env_wf, env_glob, conD, rtM, itD_l, itD_t, OD.toD, cmpD, e0]
    have hs : ∀ {s2 : St} {r : Option (Fl × St)}, execs (G m) s29_2 ⟨[x, .own (.fl found), .own (.fl ((w :: ws).map Tr.d).reverse), y], S⟩ = some (.nx, s2) → whileM (tst (G m) c29_0) (execs (G m) s29_2) k s2 = r →
        whileM (tst (G m) c29_0) (execs (G m) s29_2) (k + 1) ⟨[x, .own (.fl found), .own (.fl ((w :: ws).map Tr.d).reverse), y], S⟩ = r := by
      intro s2 r g1 g2
      rw [whileM, bnd_ok e1]
      simp only [if_true, turnEnd, bnd_ok g1, g2]
    have p1 : exec (G m) u29_0 ⟨[x, .own (.fl found), .own (.fl ((w :: ws).map Tr.d).reverse), y], S⟩ = some (.nx, ⟨[x, .own (.fl found), .own (.fl (ws.map Tr.d).reverse), .val w.d], S⟩) := by
      rw [u29_0, exec, denOE, hrev, bnd_ok (bnd_ok (v_mth0 rfl mm_last))]
      rfl
    have hge := sumC_ge ws
    cases w with
    | lf d =>
      obtain ⟨j, hj, rfl⟩ := isV_int (d := d) (n := n) (by have := (hw _ List.mem_cons_self).1; simpa [Tr.ml, Tr.lv] using this)
      obtain ⟨y', q⟩ := values_loop (x := x) k (ws := ws) (found := found ++ [.int j]) (y := .val (.int j)) (by simp [sumC, Tr.cnt] at h1 ⊢; omega) (by simp [sumC, Tr.cnt] at h2 ⊢; omega) (fun w hw' => hw w (List.mem_cons_of_mem _ hw'))
      have h3 : exec (G m) u29_2 ⟨[x, .own (.fl found), .own (.fl (ws.map Tr.d).reverse), .val (.int j)], S⟩ = some (.nx, ⟨[x, .own (.fl (found ++ [.int j])), .own (.fl (ws.map Tr.d).reverse), .val (.int j)], S⟩) :=
        x_exp (v_mth1 (L1 := [x, .own (.fl found), .own (.fl (ws.map Tr.d).reverse), .val (.int j)]) (S1 := S) (a := .int j) rfl rfl rfl (mm_append (by omega)))
      have h4 : exec (G m) u29_3 ⟨[x, .own (.fl found), .own (.fl (ws.map Tr.d).reverse), .val (.int j)], S⟩ = some (.nx, ⟨[x, .own (.fl (found ++ [.int j])), .own (.fl (ws.map Tr.d).reverse), .val (.int j)], S⟩) := by
        rw [u29_3, exec, bnd_ok (a := false) (s1 := ⟨[x, .own (.fl found), .own (.fl (ws.map Tr.d).reverse), .val (.int j)], S⟩) (by simp [exec, execs, den, dens, denB, denAs, denKs, denIt, denIfs, denEO, denOE, denOEs, denF, bnd, ret, readVar, peek, peekO, peekL, opn_bv, opn_var, opn_con, opn_glo, opn_tup, opn_lst, opn_bin, opn_sub, opn_att, opn_bi1, opn_call, opn_callK, opn_cmp, opn_ss, opn_sl, cmpM, subM, subB, attM, unaM, setSlot, setSlots, setV, setT, setTs, doCall, mutF, tst, andThen, ofO_s, leafD_l, tr_b, env_call, env_fn, env_wf, env_glob, conD, rtM, itD_l, itD_t, isiD]), if_neg (by simp), s29_1, r_nx h3]
        rfl
      refine ⟨y', hs (s2 := ⟨[x, .own (.fl (found ++ [.int j])), .own (.fl (ws.map Tr.d).reverse), .val (.int j)], S⟩) ?_ ?_⟩
      · rw [s29_2, r_nx p1, Tr.d, r_nx h4]; rfl
      · rw [q]; simp [Tr.vl]
    | nd a b =>
      have ab := hw (.nd a b) List.mem_cons_self
      have hm2 := ab.1
      rw [Tr.ml_nd, Bool.and_eq_true] at hm2
      obtain ⟨y', q⟩ := values_loop (x := x) k (ws := a :: b :: ws) (found := found) (y := .val (Tr.nd a b).d) (by simp [sumC, Tr.cnt] at h1 ⊢; omega) (by simp [sumC, Tr.cnt] at h2 ⊢; omega) (fun w hw' => by
          have hd := ab.2
          rw [Tr.dep] at hd
          rcases List.mem_cons.mp hw' with rfl | hw'
          · exact ⟨hm2.2, by omega⟩
          · rcases List.mem_cons.mp hw' with rfl | hw'
            · exact ⟨hm2.1, by omega⟩
            · exact hw w (List.mem_cons_of_mem _ hw'))
      have hrev2 : ((a :: b :: ws).map Tr.d).reverse = (ws.map Tr.d).reverse ++ [b.d, a.d] := by simp
      have hl : found.length + ws.length + 2 ≤ 401 := by
        have := a.cnt_pos
        have := b.cnt_pos
        simp [sumC, Tr.cnt] at h2 hge
        omega
      have h3 : exec (G m) u29_1 ⟨[x, .own (.fl found), .own (.fl (ws.map Tr.d).reverse), .val (Tr.nd a b).d], S⟩ = some (.nx, ⟨[x, .own (.fl found), .own (.fl ((ws.map Tr.d).reverse ++ [b.d, a.d])), .val (Tr.nd a b).d], S⟩) :=
        x_exp (v_mth1 (L1 := [x, .own (.fl found), .own (.fl (ws.map Tr.d).reverse), .val (Tr.nd a b).d]) (S1 := S) (a := .lst [b.d, a.d]) rfl (by
          have i0 : ixD (Tr.nd a b).d (.int 0) = some a.d := rfl
          have i1 : ixD (Tr.nd a b).d (.int 1) = some b.d := rfl
          simp [exec, execs, den, dens, denB, denAs, denKs, denIt, denIfs, denEO, denOE, denOEs, denF, bnd, ret, readVar, peek, peekO, peekL, opn_bv, opn_var, opn_con, opn_glo, opn_tup, opn_lst, opn_bin, opn_sub, opn_att, opn_bi1, opn_call, opn_callK, opn_cmp, opn_ss, opn_sl, cmpM, subM, subB, attM, unaM, setSlot, setSlots, setV, setT, setTs, doCall, mutF, tst, andThen, ofO_s, leafD_l, tr_b, env_call, env_fn, env_wf, env_glob, conD, rtM, itD_l, itD_t, i0, i1, sizeLine]) rfl (mm_ext rfl (by simp; omega)))
      have h4 : exec (G m) u29_3 ⟨[x, .own (.fl found), .own (.fl (ws.map Tr.d).reverse), .val (Tr.nd a b).d], S⟩ = some (.nx, ⟨[x, .own (.fl found), .own (.fl ((ws.map Tr.d).reverse ++ [b.d, a.d])), .val (Tr.nd a b).d], S⟩) := by
        rw [u29_3, exec, bnd_ok (a := true) (s1 := ⟨[x, .own (.fl found), .own (.fl (ws.map Tr.d).reverse), .val (Tr.nd a b).d], S⟩) (by simp [exec, execs, den, dens, denB, denAs, denKs, denIt, denIfs, denEO, denOE, denOEs, denF, bnd, ret, readVar, peek, peekO, peekL, opn_bv, opn_var, opn_con, opn_glo, opn_tup, opn_lst, opn_bin, opn_sub, opn_att, opn_bi1, opn_call, opn_callK, opn_cmp, opn_ss, opn_sl, cmpM, subM, subB, attM, unaM, setSlot, setSlots, setV, setT, setTs, doCall, mutF, tst, andThen, ofO_s, leafD_l, tr_b, env_call, env_fn, env_wf, env_glob, conD, rtM, itD_l, itD_t, isiD, Tr.d]), if_pos rfl, s29_0, r_nx h3]
        rfl
      refine ⟨y', hs (s2 := ⟨[x, .own (.fl found), .own (.fl ((a :: b :: ws).map Tr.d).reverse), .val (Tr.nd a b).d], S⟩) ?_ ?_⟩
      · rw [s29_2, r_nx p1, hrev2, r_nx h4]; rfl
      · rw [q]; simp [Tr.vl]
theorem sp29 (hm : 1 ≤ m) {t : Tr} (h : t.ml n = true) (hd : t.dep ≤ 50) (hc : t.cnt ≤ 400) : cl m 29 [.val t.d] S = some (.leaf (.lst t.vl), S) := by
  obtain ⟨y', q⟩ := values_loop (n := n) (S := S) (m := m - 1) (x := .val t.d) 1000 (ws := [t]) (found := []) (y := .no) (by simp [sumC]; omega) (by simpa [sumC] using hc) (fun w hw => by rw [List.mem_singleton] at hw; subst hw; exact ⟨h, hd⟩)
  have g0 : exec (G (m - 1)) t29_0 ⟨[.val t.d, .no, .no, .no], S⟩ = some (.nx, ⟨[.val t.d, .own (.fl []), .own (.fl [t.d]), .no], S⟩) := by
    simp [t29_0, exec, execs, den, dens, denB, denAs, denKs, denIt, denIfs, denEO, denOE, denOEs, denF, bnd, ret, readVar, peek, peekO, peekL, opn_bv, opn_var, opn_con, opn_glo, opn_tup, opn_lst, opn_bin, opn_sub, opn_att, opn_bi1, opn_call, opn_callK, opn_cmp, opn_ss, opn_sl, cmpM, subM, subB, attM, unaM, setSlot, setSlots, setV, setT, setTs, doCall, mutF, tst, andThen, ofO_s, leafD_l, tr_b, env_call, env_fn, env_wf, env_glob, conD, rtM, itD_l, itD_t, sizeLine]
  refine call_ok (d := d29) rfl (by omega) rfl (L' := [.val t.d, .val (.lst t.vl), .own (.fl []), y']) ?_
  show execs _ (.cons t29_0 (.cons t29_1 (.cons t29_2 .nil))) ⟨[.val t.d, .no, .no, .no], S⟩ = _
  rw [r_nx g0, r_nx (show exec (G (m - 1)) t29_1 _ = _ from by rw [t29_1, exec]; exact q)]
  refine r_rt ?_
  simp [t29_2, exec, execs, den, dens, denB, denAs, denKs, denIt, denIfs, denEO, denOE, denOEs, denF, bnd, ret, readVar, peek, peekO, peekL, opn_bv, opn_var, opn_con, opn_glo, opn_tup, opn_lst, opn_bin, opn_sub, opn_att, opn_bi1, opn_call, opn_callK, opn_cmp, opn_ss, opn_sl, cmpM, subM, subB, attM, unaM, setSlot, setSlots, setV, setT, setTs, doCall, mutF, tst, andThen, ofO_s, leafD_l, tr_b, env_call, env_fn, env_wf, env_glob, conD, rtM, itD_l, itD_t, OD.toD]
theorem sp30 (hT : Tb n f) : ∀ {t : Tr} {m : Nat}, t.ml n = true → t.dep + 1 ≤ m → cl m 30 [.val (rowsD n f), .val t.d] S = some (.leaf (.int (t.res f)), S)
  | .lf d, m, h, hm => by
    obtain ⟨k, hk, rfl⟩ := isV_int (by simpa [Tr.ml, Tr.lv] using h)
    refine call_ok (d := d30) rfl (by omega) rfl (L' := [.val (rowsD n f), .val (.int k)]) ?_
    show execs _ (.cons t30_0 (.cons t30_1 .nil)) ⟨[.val (rowsD n f), .val (.int k)], S⟩ = _
    rw [r_nx (s1 := ⟨[.val (rowsD n f), .val (.int k)], S⟩) (by simp [t30_0, exec, execs, den, dens, denB, denAs, denKs, denIt, denIfs, denEO, denOE, denOEs, denF, bnd, ret, readVar, peek, peekO, peekL, opn_bv, opn_var, opn_con, opn_glo, opn_tup, opn_lst, opn_bin, opn_sub, opn_att, opn_bi1, opn_call, opn_callK, opn_cmp, opn_ss, opn_sl, cmpM, subM, subB, attM, unaM, setSlot, setSlots, setV, setT, setTs, doCall, mutF, tst, andThen, ofO_s, leafD_l, tr_b, env_call, env_fn, env_wf, env_glob, conD, rtM, itD_l, itD_t, isiD])]
    refine r_rt ?_
    simp [t30_1, exec, execs, den, dens, denB, denAs, denKs, denIt, denIfs, denEO, denOE, denOEs, denF, bnd, ret, readVar, peek, peekO, peekL, opn_bv, opn_var, opn_con, opn_glo, opn_tup, opn_lst, opn_bin, opn_sub, opn_att, opn_bi1, opn_call, opn_callK, opn_cmp, opn_ss, opn_sl, cmpM, subM, subB, attM, unaM, setSlot, setSlots, setV, setT, setTs, doCall, mutF, tst, andThen, ofO_s, leafD_l, tr_b, env_call, env_fn, env_wf, env_glob, conD, rtM, itD_l, itD_t, Tr.res]
  | .nd a b, m, h, hm => by
    rw [Tr.ml_nd, Bool.and_eq_true] at h
    rw [Tr.dep] at hm
    have ea := sp30 hT (t := a) (m := m - 1) h.2 (by omega)
    have eb := sp30 hT (t := b) (m := m - 1) h.1 (by omega)
    have la := Tr.res_lt hT h.2
    have lb := Tr.res_lt hT h.1
    refine call_ok (d := d30) rfl (by omega) rfl (L' := [.val (rowsD n f), .val (.tup [a.d, b.d])]) ?_
    show execs _ (.cons t30_0 (.cons t30_1 .nil)) ⟨[.val (rowsD n f), .val (.tup [a.d, b.d])], S⟩ = _
    have i0 : ixD (.tup [a.d, b.d]) (.int 0) = some a.d := rfl
    have i1 : ixD (.tup [a.d, b.d]) (.int 1) = some b.d := rfl
    have i2 : ixD (rowsD n f) (.int (a.res f)) = some (.lst (rowL n (f (a.res f)))) := ix_l (rowsL_at (f := f) la)
    have i3 := ix_l (rowL_at (g := f (a.res f)) lb)
    refine r_rt ?_
    simp [t30_0, s30_0, u30_0, exec, execs, den, dens, denB, denAs, denKs, denIt, denIfs, denEO, denOE, denOEs, denF, bnd, ret, readVar, peek, peekO, peekL, opn_bv, opn_var, opn_con, opn_glo, opn_tup, opn_lst, opn_bin, opn_sub, opn_att, opn_bi1, opn_call, opn_callK, opn_cmp, opn_ss, opn_sl, cmpM, subM, subB, attM, unaM, setSlot, setSlots, setV, setT, setTs, doCall, mutF, tst, andThen, ofO_s, leafD_l, tr_b, env_call, env_fn, env_wf, env_glob, conD, rtM, itD_l, itD_t, isiD, i0, i1, i2, i3, ea, eb, Tr.res]
theorem sp33 : ∀ {t : Tr} {m : Nat}, t.ok → t.dep + 1 ≤ m → cl m 33 [.val (rowsD n f), .val t.d] S = some (.leaf (.bl (t.ml n)), S)
  | .lf d, m, h, hm => by
    refine call_ok (d := d33) rfl (by omega) rfl (L' := [.val (rowsD n f), .val d]) ?_
    show execs _ (.cons t33_0 (.cons t33_1 .nil)) ⟨[.val (rowsD n f), .val d], S⟩ = _
    have el : bi1D .len (rowsD n f) = some (.int n) := by unfold rowsD; rw [b1L, rowsL_len]
    have hml : (Tr.lf d).ml n = isV n d := by simp [Tr.ml, Tr.lv]
    rw [hml]
    cases d with
    | obj q fs => exact absurd rfl (h.2.top.1 q fs)
    | scr ns => exact absurd rfl (h.2.top.2 ns)
    | tup xs =>
      have e : cmpD .Eq (.int xs.length) (.int 2) = some (.bl false) := by
        simp only [cmpD, eq_int, Option.map_some]
        congr 2
        match xs, h.1 with
        | [], _ => rfl
        | [_], _ => rfl
        | [a, b], h => exact absurd rfl (h a b)
        | _ :: _ :: _ :: r, _ => simp; omega
      refine r_rt ?_
      simp [t33_0, s33_0, u33_0, exec, execs, den, dens, denB, denAs, denKs, denIt, denIfs, denEO, denOE, denOEs, denF, bnd, ret, readVar, peek, peekO, peekL, opn_bv, opn_var, opn_con, opn_glo, opn_tup, opn_lst, opn_bin, opn_sub, opn_att, opn_bi1, opn_call, opn_callK, opn_cmp, opn_ss, opn_sl, cmpM, subM, subB, attM, unaM, setSlot, setSlots, setV, setT, setTs, doCall, mutF, tst, andThen, ofO_s, leafD_l, tr_b, env_call, env_fn, env_wf, env_glob, conD, rtM, itD_l, itD_t, isiD, b1T, e, isV]
    | int i =>
      rw [r_nx (s1 := ⟨[.val (rowsD n f), .val (.int i)], S⟩) (by simp [t33_0, exec, execs, den, dens, denB, denAs, denKs, denIt, denIfs, denEO, denOE, denOEs, denF, bnd, ret, readVar, peek, peekO, peekL, opn_bv, opn_var, opn_con, opn_glo, opn_tup, opn_lst, opn_bin, opn_sub, opn_att, opn_bi1, opn_call, opn_callK, opn_cmp, opn_ss, opn_sl, cmpM, subM, subB, attM, unaM, setSlot, setSlots, setV, setT, setTs, doCall, mutF, tst, andThen, ofO_s, leafD_l, tr_b, env_call, env_fn, env_wf, env_glob, conD, rtM, itD_l, itD_t, isiD])]
      refine r_rt ?_
      by_cases hi : 0 ≤ i
      · simp [t33_1, exec, execs, den, dens, denB, denAs, denKs, denIt, denIfs, denEO, denOE, denOEs, denF, bnd, ret, readVar, peek, peekO, peekL, opn_bv, opn_var, opn_con, opn_glo, opn_tup, opn_lst, opn_bin, opn_sub, opn_att, opn_bi1, opn_call, opn_callK, opn_cmp, opn_ss, opn_sl, cmpM, subM, subB, attM, unaM, setSlot, setSlots, setV, setT, setTs, doCall, mutF, tst, andThen, ofO_s, leafD_l, tr_b, env_call, env_fn, env_wf, env_glob, conD, rtM, itD_l, itD_t, isiD, cmpD, isD, cmpI, el, isV, hi]
      · simp [t33_1, exec, execs, den, dens, denB, denAs, denKs, denIt, denIfs, denEO, denOE, denOEs, denF, bnd, ret, readVar, peek, peekO, peekL, opn_bv, opn_var, opn_con, opn_glo, opn_tup, opn_lst, opn_bin, opn_sub, opn_att, opn_bi1, opn_call, opn_callK, opn_cmp, opn_ss, opn_sl, cmpM, subM, subB, attM, unaM, setSlot, setSlots, setV, setT, setTs, doCall, mutF, tst, andThen, ofO_s, leafD_l, tr_b, env_call, env_fn, env_wf, env_glob, conD, rtM, itD_l, itD_t, isiD, cmpD, isD, cmpI, el, isV, hi]
    | bl b =>
      rw [r_nx (s1 := ⟨[.val (rowsD n f), .val (.bl b)], S⟩) (by simp [t33_0, exec, execs, den, dens, denB, denAs, denKs, denIt, denIfs, denEO, denOE, denOEs, denF, bnd, ret, readVar, peek, peekO, peekL, opn_bv, opn_var, opn_con, opn_glo, opn_tup, opn_lst, opn_bin, opn_sub, opn_att, opn_bi1, opn_call, opn_callK, opn_cmp, opn_ss, opn_sl, cmpM, subM, subB, attM, unaM, setSlot, setSlots, setV, setT, setTs, doCall, mutF, tst, andThen, ofO_s, leafD_l, tr_b, env_call, env_fn, env_wf, env_glob, conD, rtM, itD_l, itD_t, isiD])]
      refine r_rt ?_
      cases b <;> simp [t33_1, exec, execs, den, dens, denB, denAs, denKs, denIt, denIfs, denEO, denOE, denOEs, denF, bnd, ret, readVar, peek, peekO, peekL, opn_bv, opn_var, opn_con, opn_glo, opn_tup, opn_lst, opn_bin, opn_sub, opn_att, opn_bi1, opn_call, opn_callK, opn_cmp, opn_ss, opn_sl, cmpM, subM, subB, attM, unaM, setSlot, setSlots, setV, setT, setTs, doCall, mutF, tst, andThen, ofO_s, leafD_l, tr_b, env_call, env_fn, env_wf, env_glob, conD, rtM, itD_l, itD_t, isiD, cmpD, isD, isV]
    | non =>
      rw [r_nx (s1 := ⟨[.val (rowsD n f), .val .non], S⟩) (by simp [t33_0, exec, execs, den, dens, denB, denAs, denKs, denIt, denIfs, denEO, denOE, denOEs, denF, bnd, ret, readVar, peek, peekO, peekL, opn_bv, opn_var, opn_con, opn_glo, opn_tup, opn_lst, opn_bin, opn_sub, opn_att, opn_bi1, opn_call, opn_callK, opn_cmp, opn_ss, opn_sl, cmpM, subM, subB, attM, unaM, setSlot, setSlots, setV, setT, setTs, doCall, mutF, tst, andThen, ofO_s, leafD_l, tr_b, env_call, env_fn, env_wf, env_glob, conD, rtM, itD_l, itD_t, isiD])]
      refine r_rt ?_
      simp [t33_1, exec, execs, den, dens, denB, denAs, denKs, denIt, denIfs, denEO, denOE, denOEs, denF, bnd, ret, readVar, peek, peekO, peekL, opn_bv, opn_var, opn_con, opn_glo, opn_tup, opn_lst, opn_bin, opn_sub, opn_att, opn_bi1, opn_call, opn_callK, opn_cmp, opn_ss, opn_sl, cmpM, subM, subB, attM, unaM, setSlot, setSlots, setV, setT, setTs, doCall, mutF, tst, andThen, ofO_s, leafD_l, tr_b, env_call, env_fn, env_wf, env_glob, conD, rtM, itD_l, itD_t, isiD, isV]
    | str z =>
      rw [r_nx (s1 := ⟨[.val (rowsD n f), .val (.str z)], S⟩) (by simp [t33_0, exec, execs, den, dens, denB, denAs, denKs, denIt, denIfs, denEO, denOE, denOEs, denF, bnd, ret, readVar, peek, peekO, peekL, opn_bv, opn_var, opn_con, opn_glo, opn_tup, opn_lst, opn_bin, opn_sub, opn_att, opn_bi1, opn_call, opn_callK, opn_cmp, opn_ss, opn_sl, cmpM, subM, subB, attM, unaM, setSlot, setSlots, setV, setT, setTs, doCall, mutF, tst, andThen, ofO_s, leafD_l, tr_b, env_call, env_fn, env_wf, env_glob, conD, rtM, itD_l, itD_t, isiD])]
      refine r_rt ?_
      simp [t33_1, exec, execs, den, dens, denB, denAs, denKs, denIt, denIfs, denEO, denOE, denOEs, denF, bnd, ret, readVar, peek, peekO, peekL, opn_bv, opn_var, opn_con, opn_glo, opn_tup, opn_lst, opn_bin, opn_sub, opn_att, opn_bi1, opn_call, opn_callK, opn_cmp, opn_ss, opn_sl, cmpM, subM, subB, attM, unaM, setSlot, setSlots, setV, setT, setTs, doCall, mutF, tst, andThen, ofO_s, leafD_l, tr_b, env_call, env_fn, env_wf, env_glob, conD, rtM, itD_l, itD_t, isiD, isV]
    | lst z =>
      rw [r_nx (s1 := ⟨[.val (rowsD n f), .val (.lst z)], S⟩) (by simp [t33_0, exec, execs, den, dens, denB, denAs, denKs, denIt, denIfs, denEO, denOE, denOEs, denF, bnd, ret, readVar, peek, peekO, peekL, opn_bv, opn_var, opn_con, opn_glo, opn_tup, opn_lst, opn_bin, opn_sub, opn_att, opn_bi1, opn_call, opn_callK, opn_cmp, opn_ss, opn_sl, cmpM, subM, subB, attM, unaM, setSlot, setSlots, setV, setT, setTs, doCall, mutF, tst, andThen, ofO_s, leafD_l, tr_b, env_call, env_fn, env_wf, env_glob, conD, rtM, itD_l, itD_t, isiD])]
      refine r_rt ?_
      simp [t33_1, exec, execs, den, dens, denB, denAs, denKs, denIt, denIfs, denEO, denOE, denOEs, denF, bnd, ret, readVar, peek, peekO, peekL, opn_bv, opn_var, opn_con, opn_glo, opn_tup, opn_lst, opn_bin, opn_sub, opn_att, opn_bi1, opn_call, opn_callK, opn_cmp, opn_ss, opn_sl, cmpM, subM, subB, attM, unaM, setSlot, setSlots, setV, setT, setTs, doCall, mutF, tst, andThen, ofO_s, leafD_l, tr_b, env_call, env_fn, env_wf, env_glob, conD, rtM, itD_l, itD_t, isiD, isV]
  | .nd a b, m, h, hm => by
    rw [Tr.dep] at hm
    have ea := sp33 (t := a) (m := m - 1) h.1 (by omega)
    have eb := sp33 (t := b) (m := m - 1) h.2 (by omega)
    refine call_ok (d := d33) rfl (by omega) rfl (L' := [.val (rowsD n f), .val (.tup [a.d, b.d])]) ?_
    show execs _ (.cons t33_0 (.cons t33_1 .nil)) ⟨[.val (rowsD n f), .val (.tup [a.d, b.d])], S⟩ = _
    have i0 : ixD (.tup [a.d, b.d]) (.int 0) = some a.d := rfl
    have i1 : ixD (.tup [a.d, b.d]) (.int 1) = some b.d := rfl
    have e : cmpD .Eq (.int 2) (.int 2) = some (.bl true) := by simp [cmpD, eq_int]
    rw [Tr.ml_nd]
    refine r_rt ?_
    cases hA : a.ml n <;> cases hB : b.ml n <;> rw [hA] at ea <;> rw [hB] at eb <;> simp [t33_0, s33_0, u33_0, exec, execs, den, dens, denB, denAs, denKs, denIt, denIfs, denEO, denOE, denOEs, denF, bnd, ret, readVar, peek, peekO, peekL, opn_bv, opn_var, opn_con, opn_glo, opn_tup, opn_lst, opn_bin, opn_sub, opn_att, opn_bi1, opn_call, opn_callK, opn_cmp, opn_ss, opn_sl, cmpM, subM, subB, attM, unaM, setSlot, setSlots, setV, setT, setTs, doCall, mutF, tst, andThen, ofO_s, leafD_l, tr_b, env_call, env_fn, env_wf, env_glob, conD, rtM, itD_l, itD_t, isiD, b1T, e, i0, i1, ea, eb]
theorem sp32 (hT : Tb n f) {t : Tr} (h : t.ok) (hd : t.dep ≤ 50) (hc : t.cnt ≤ 400) (hm : t.dep + 3 ≤ m) : cl m 32 [.val (rowsD n f), .val t.d] S = some (.leaf (.bl (isP n f t)), S) := by
  cases t with
  | lf d =>
    refine call_ok (d := d32) rfl (by omega) rfl (L' := [.val (rowsD n f), .val d, .no, .no, .no]) ?_
    show execs _ (.cons t32_0 (.cons t32_1 (.cons t32_2 (.cons t32_3 .nil)))) ⟨[.val (rowsD n f), .val d, .no, .no, .no], S⟩ = _
    refine r_rt ?_
    cases d with
    | obj q fs => exact absurd rfl (h.2.top.1 q fs)
    | scr ns => exact absurd rfl (h.2.top.2 ns)
    | tup xs =>
      have e : cmpD .NotEq (.int xs.length) (.int 2) = some (.bl true) := by
        simp only [cmpD, eq_int, Option.map_some]
        congr 2
        match xs, h.1 with
        | [], _ => rfl
        | [_], _ => rfl
        | [a, b], h => exact absurd rfl (h a b)
        | _ :: _ :: _ :: r, _ => simp; omega
      simp [t32_0, s32_0, u32_0, exec, execs, den, dens, denB, denAs, denKs, denIt, denIfs, denEO, denOE, denOEs, denF, bnd, ret, readVar, peek, peekO, peekL, opn_bv, opn_var, opn_con, opn_glo, opn_tup, opn_lst, opn_bin, opn_sub, opn_att, opn_bi1, opn_call, opn_callK, opn_cmp, opn_ss, opn_sl, cmpM, subM, subB, attM, unaM, setSlot, setSlots, setV, setT, setTs, doCall, mutF, tst, andThen, ofO_s, leafD_l, tr_b, env_call, env_fn, env_wf, env_glob, conD, rtM, itD_l, itD_t, isiD, b1T, e, isP]
    | _ => simp [t32_0, s32_0, u32_0, exec, execs, den, dens, denB, denAs, denKs, denIt, denIfs, denEO, denOE, denOEs, denF, bnd, ret, readVar, peek, peekO, peekL, opn_bv, opn_var, opn_con, opn_glo, opn_tup, opn_lst, opn_bin, opn_sub, opn_att, opn_bi1, opn_call, opn_callK, opn_cmp, opn_ss, opn_sl, cmpM, subM, subB, attM, unaM, setSlot, setSlots, setV, setT, setTs, doCall, mutF, tst, andThen, ofO_s, leafD_l, tr_b, env_call, env_fn, env_wf, env_glob, conD, rtM, itD_l, itD_t, isiD, isP]
  | nd a b =>
    rw [Tr.dep] at hd hm
    rw [Tr.cnt] at hc
    have i0 : ixD (.tup [a.d, b.d]) (.int 0) = some a.d := rfl
    have i1 : ixD (.tup [a.d, b.d]) (.int 1) = some b.d := rfl
    have e : cmpD .NotEq (.int 2) (.int 2) = some (.bl false) := by simp [cmpD, eq_int]
    have ea := sp33 (m := m - 1) (n := n) (f := f) (S := S) h.1 (by omega)
    have eb := sp33 (m := m - 1) (n := n) (f := f) (S := S) h.2 (by omega)
    have e0 : den (G (m - 1)) c32_0 ⟨[.val (rowsD n f), .val (.tup [a.d, b.d]), .no, .no, .no], S⟩ = some (.lst [.bl (a.ml n), .bl (b.ml n)], ⟨[.val (rowsD n f), .val (.tup [a.d, b.d]), .no, .no, .no], S⟩) := by
      exact comp2 (.inl rfl) (it_t rfl) (by simp [exec, execs, den, dens, denB, denAs, denKs, denIt, denIfs, denEO, denOE, denOEs, denF, bnd, ret, readVar, peek, peekO, peekL, opn_bv, opn_var, opn_con, opn_glo, opn_tup, opn_lst, opn_bin, opn_sub, opn_att, opn_bi1, opn_call, opn_callK, opn_cmp, opn_ss, opn_sl, cmpM, subM, subB, attM, unaM, setSlot, setSlots, setV, setT, setTs, doCall, mutF, tst, andThen, ofO_s, leafD_l, tr_b, env_call, env_fn, env_wf, env_glob, conD, rtM, itD_l, itD_t, ea]) (by simp [exec, execs, den, dens, denB, denAs, denKs, denIt, denIfs, denEO, denOE, denOEs, denF, bnd, ret, readVar, peek, peekO, peekL, opn_bv, opn_var, opn_con, opn_glo, opn_tup, opn_lst, opn_bin, opn_sub, opn_att, opn_bi1, opn_call, opn_callK, opn_cmp, opn_ss, opn_sl, cmpM, subM, subB, attM, unaM, setSlot, setSlots, setV, setT, setTs, doCall, mutF, tst, andThen, ofO_s, leafD_l, tr_b, env_call, env_fn, env_wf, env_glob, conD, rtM, itD_l, itD_t, eb])
    have ho : ∀ mm, opn mm c32_0 = mm := fun _ => rfl
    have ho1 : ∀ mm, opn mm c32_1 = mm := fun _ => rfl
    have eall : bi1D .all (.lst [.bl (a.ml n), .bl (b.ml n)]) = some (.bl (a.ml n && b.ml n)) := by simp [bi1D, allBl]
    refine call_okE (d := d32) rfl (by omega) rfl ?_
    show ∃ L', execs _ (.cons t32_0 (.cons t32_1 (.cons t32_2 (.cons t32_3 .nil)))) ⟨[.val (rowsD n f), .val (.tup [a.d, b.d]), .no, .no, .no], S⟩ = some (.rt (.leaf (.bl (isP n f (.nd a b)))), ⟨L', S⟩)
    by_cases hA : a.ml n = true ∧ b.ml n = true
    · rw [hA.1, hA.2] at eall
      have g0 : exec (G (m - 1)) t32_0 ⟨[.val (rowsD n f), .val (.tup [a.d, b.d]), .no, .no, .no], S⟩ = some (.nx, ⟨[.val (rowsD n f), .val (.tup [a.d, b.d]), .no, .no, .no], S⟩) := by
        rw [hA.1, hA.2] at e0
        simp [t32_0, exec, execs, den, dens, denB, denAs, denKs, denIt, denIfs, denEO, denOE, denOEs, denF, bnd, ret, readVar, peek, peekO, peekL, opn_bv, opn_var, opn_con, opn_glo, opn_tup, opn_lst, opn_bin, opn_sub, opn_att, opn_bi1, opn_call, opn_callK, opn_cmp, opn_ss, opn_sl, cmpM, subM, subB, attM, unaM, setSlot, setSlots, setV, setT, setTs, doCall, mutF, tst, andThen, ofO_s, leafD_l, tr_b, env_call, env_fn, env_wf, env_glob, conD, rtM, itD_l, itD_t, isiD, b1T, e, ho, e0, eall]
      have va := sp29 (m := m - 1) (n := n) (S := S) (by omega) hA.1 (by omega) (by omega)
      have vb := sp29 (m := m - 1) (n := n) (S := S) (by omega) hA.2 (by omega) (by omega)
      have e1 : den (G (m - 1)) c32_1 ⟨[.val (rowsD n f), .val (.tup [a.d, b.d]), .no, .no, .no], S⟩ = some (.lst [.int a.cnt, .int b.cnt], ⟨[.val (rowsD n f), .val (.tup [a.d, b.d]), .no, .no, .no], S⟩) :=
        comp2 (.inl rfl) (it_t rfl) (by simp [exec, execs, den, dens, denB, denAs, denKs, denIt, denIfs, denEO, denOE, denOEs, denF, bnd, ret, readVar, peek, peekO, peekL, opn_bv, opn_var, opn_con, opn_glo, opn_tup, opn_lst, opn_bin, opn_sub, opn_att, opn_bi1, opn_call, opn_callK, opn_cmp, opn_ss, opn_sl, cmpM, subM, subB, attM, unaM, setSlot, setSlots, setV, setT, setTs, doCall, mutF, tst, andThen, ofO_s, leafD_l, tr_b, env_call, env_fn, env_wf, env_glob, conD, rtM, itD_l, itD_t, va, b1L, Tr.vl_len]) (by simp [exec, execs, den, dens, denB, denAs, denKs, denIt, denIfs, denEO, denOE, denOEs, denF, bnd, ret, readVar, peek, peekO, peekL, opn_bv, opn_var, opn_con, opn_glo, opn_tup, opn_lst, opn_bin, opn_sub, opn_att, opn_bi1, opn_call, opn_callK, opn_cmp, opn_ss, opn_sl, cmpM, subM, subB, attM, unaM, setSlot, setSlots, setV, setT, setTs, doCall, mutF, tst, andThen, ofO_s, leafD_l, tr_b, env_call, env_fn, env_wf, env_glob, conD, rtM, itD_l, itD_t, vb, b1L, Tr.vl_len])
      have emax : bi1D .maxL (.lst [.int a.cnt, .int b.cnt]) = some (.int (max (a.cnt : Int) (b.cnt : Int))) := by simp [bi1D, allI, maxI]
      by_cases hC : a.cnt ≤ 40 ∧ b.cnt ≤ 40
      · have cg : cmpD .Gt (.int (max (a.cnt : Int) (b.cnt : Int))) (.int 40) = some (.bl false) := by
          simp [cmpD, cmpI]; omega
        have g1 : exec (G (m - 1)) t32_1 ⟨[.val (rowsD n f), .val (.tup [a.d, b.d]), .no, .no, .no], S⟩ = some (.nx, ⟨[.val (rowsD n f), .val (.tup [a.d, b.d]), .no, .no, .no], S⟩) := by
          simp only [t32_1, exec, execs, den, dens, denB, denAs, denKs, denIt, denIfs, denEO, denOE, denOEs, denF, bnd, ret, readVar, peek, peekO, peekL, opn_bv, opn_var, opn_con, opn_glo, opn_tup, opn_lst, opn_bin, opn_sub, opn_att, opn_bi1, opn_call, opn_callK, opn_cmp, opn_ss, opn_sl, cmpM, subM, subB, attM, unaM, setSlot, setSlots, setV, setT, setTs, doCall, mutF, tst, andThen, ofO_s, leafD_l, tr_b, env_call, env_fn, env_wf, env_glob, conD, rtM, itD_l, itD_t, ho1, e1, emax, cg, if_false, Bool.false_eq_true]
        have ssv : ∀ {t : Tr}, t.ml n = true → t.cnt ≤ 40 → ssD (.lst t.vl) = some (.lst ((ssI (intsD t.lv)).map D.int)) := by
          intro t ht hct
          obtain ⟨z1, z2⟩ := allI_ml (n := n) (ds := t.vl) (by rw [Tr.vl_all]; exact ht)
          rw [Tr.vl_len] at z2
          unfold ssD
          simp only [z1]
          rw [if_pos (by omega), ss_vl]
        have e2 : den (G (m - 1)) c32_2 ⟨[.val (rowsD n f), .val (.tup [a.d, b.d]), .no, .no, .no], S⟩ = some (.lst [.lst ((ssI (intsD a.lv)).map D.int), .lst ((ssI (intsD b.lv)).map D.int)], ⟨[.val (rowsD n f), .val (.tup [a.d, b.d]), .no, .no, .no], S⟩) :=
          comp2 (.inl rfl) (it_t rfl) (by simp [exec, execs, den, dens, denB, denAs, denKs, denIt, denIfs, denEO, denOE, denOEs, denF, bnd, ret, readVar, peek, peekO, peekL, opn_bv, opn_var, opn_con, opn_glo, opn_tup, opn_lst, opn_bin, opn_sub, opn_att, opn_bi1, opn_call, opn_callK, opn_cmp, opn_ss, opn_sl, cmpM, subM, subB, attM, unaM, setSlot, setSlots, setV, setT, setTs, doCall, mutF, tst, andThen, ofO_s, leafD_l, tr_b, env_call, env_fn, env_wf, env_glob, conD, rtM, itD_l, itD_t, va, ssv hA.1 hC.1]) (by simp [exec, execs, den, dens, denB, denAs, denKs, denIt, denIfs, denEO, denOE, denOEs, denF, bnd, ret, readVar, peek, peekO, peekL, opn_bv, opn_var, opn_con, opn_glo, opn_tup, opn_lst, opn_bin, opn_sub, opn_att, opn_bi1, opn_call, opn_callK, opn_cmp, opn_ss, opn_sl, cmpM, subM, subB, attM, unaM, setSlot, setSlots, setV, setT, setTs, doCall, mutF, tst, andThen, ofO_s, leafD_l, tr_b, env_call, env_fn, env_wf, env_glob, conD, rtM, itD_l, itD_t, vb, ssv hA.2 hC.2])
        have g2 : exec (G (m - 1)) t32_2 ⟨[.val (rowsD n f), .val (.tup [a.d, b.d]), .no, .no, .no], S⟩ = some (.nx, ⟨[.val (rowsD n f), .val (.tup [a.d, b.d]), .val (.lst ((ssI (intsD a.lv)).map D.int)), .val (.lst ((ssI (intsD b.lv)).map D.int)), .no], S⟩) := by
          rw [t32_2, exec, bnd_ok e2]
          simp [exec, execs, den, dens, denB, denAs, denKs, denIt, denIfs, denEO, denOE, denOEs, denF, bnd, ret, readVar, peek, peekO, peekL, opn_bv, opn_var, opn_con, opn_glo, opn_tup, opn_lst, opn_bin, opn_sub, opn_att, opn_bi1, opn_call, opn_callK, opn_cmp, opn_ss, opn_sl, cmpM, subM, subB, attM, unaM, setSlot, setSlots, setV, setT, setTs, doCall, mutF, tst, andThen, ofO_s, leafD_l, tr_b, env_call, env_fn, env_wf, env_glob, conD, rtM, itD_l, itD_t]
        have ra := sp30 (m := m - 1) (S := S) hT hA.1 (by omega)
        have rb := sp30 (m := m - 1) (S := S) hT hA.2 (by omega)
        have ec : cmpD .NotEq (.int (a.res f)) (.int (b.res f)) = some (.bl (!(a.res f == b.res f))) := by
          simp only [cmpD, eq_int, Option.map_some, int_beq]
        have ee : cmpD .Eq (.lst ((ssI (intsD a.lv)).map D.int)) (.lst ((ssI (intsD b.lv)).map D.int)) = some (.bl (ssI (intsD a.lv) == ssI (intsD b.lv))) := by
          simp only [cmpD, eq_ints, Option.map_some]
        rw [r_nx g0, r_nx g1, r_nx g2]
        refine ⟨[.val (rowsD n f), .val (.tup [a.d, b.d]), .val (.lst ((ssI (intsD a.lv)).map D.int)), .val (.lst ((ssI (intsD b.lv)).map D.int)), .no], r_rt ?_⟩
        have hp : isP n f (.nd a b) = ((ssI (intsD a.lv) == ssI (intsD b.lv)) && !(a.res f == b.res f)) := by
          simp [isP, hA.1, hA.2, hC.1, hC.2]
        rw [hp]
        cases hS : (ssI (intsD a.lv) == ssI (intsD b.lv)) with
        | false =>
          rw [hS] at ee
          simp only [t32_3, exec, execs, den, dens, denB, denAs, denKs, denIt, denIfs, denEO, denOE, denOEs, denF, bnd, ret, readVar, peek, peekO, peekL, opn_bv, opn_var, opn_con, opn_glo, opn_tup, opn_lst, opn_bin, opn_sub, opn_att, opn_bi1, opn_call, opn_callK, opn_cmp, opn_ss, opn_sl, cmpM, subM, subB, attM, unaM, setSlot, setSlots, setV, setT, setTs, doCall, mutF, tst, andThen, ofO_s, leafD_l, tr_b, env_call, env_fn, env_wf, env_glob, conD, rtM, itD_l, itD_t, ee, List.getElem?_cons_zero, List.getElem?_cons_succ, Bool.false_and, if_false, Bool.false_eq_true]
        | true =>
          rw [hS] at ee
          simp only [t32_3, exec, execs, den, dens, denB, denAs, denKs, denIt, denIfs, denEO, denOE, denOEs, denF, bnd, ret, readVar, peek, peekO, peekL, opn_bv, opn_var, opn_con, opn_glo, opn_tup, opn_lst, opn_bin, opn_sub, opn_att, opn_bi1, opn_call, opn_callK, opn_cmp, opn_ss, opn_sl, cmpM, subM, subB, attM, unaM, setSlot, setSlots, setV, setT, setTs, doCall, mutF, tst, andThen, ofO_s, leafD_l, tr_b, env_call, env_fn, env_wf, env_glob, conD, rtM, itD_l, itD_t, ee, List.getElem?_cons_zero, List.getElem?_cons_succ, Bool.true_and, if_true, i0, i1, ra, rb, ec]
      · have cg : cmpD .Gt (.int (max (a.cnt : Int) (b.cnt : Int))) (.int 40) = some (.bl true) := by
          simp [cmpD, cmpI]; omega
        have hp : isP n f (.nd a b) = false := by
          simp only [isP, hA.1, hA.2, Bool.and_true]
          have : (decide (a.cnt ≤ 40) && decide (b.cnt ≤ 40)) = false := by
            rw [← Bool.decide_and]
            exact decide_eq_false hC
          rw [this]; rfl
        rw [r_nx g0, hp]
        refine ⟨[.val (rowsD n f), .val (.tup [a.d, b.d]), .no, .no, .no], r_rt ?_⟩
        simp only [t32_1, s32_1, u32_1, exec, execs, den, dens, denB, denAs, denKs, denIt, denIfs, denEO, denOE, denOEs, denF, bnd, ret, readVar, peek, peekO, peekL, opn_bv, opn_var, opn_con, opn_glo, opn_tup, opn_lst, opn_bin, opn_sub, opn_att, opn_bi1, opn_call, opn_callK, opn_cmp, opn_ss, opn_sl, cmpM, subM, subB, attM, unaM, setSlot, setSlots, setV, setT, setTs, doCall, mutF, tst, andThen, ofO_s, leafD_l, tr_b, env_call, env_fn, env_wf, env_glob, conD, rtM, itD_l, itD_t, ho1, e1, emax, cg, if_true]
    · have hAB : (a.ml n && b.ml n) = false := by
        rw [← Bool.not_eq_true, Bool.and_eq_true]; exact hA
      rw [hAB] at eall
      have hp : isP n f (.nd a b) = false := by
        have : ((decide (a.cnt ≤ 40) && a.ml n) && (decide (b.cnt ≤ 40) && b.ml n)) = false := by
          rw [← Bool.not_eq_true]
          simp only [Bool.and_eq_true]
          exact fun z => hA ⟨z.1.2, z.2.2⟩
        rw [isP, this]; rfl
      rw [hp]
      refine ⟨[.val (rowsD n f), .val (.tup [a.d, b.d]), .no, .no, .no], r_rt ?_⟩
      simp [t32_0, s32_0, u32_0, exec, execs, den, dens, denB, denAs, denKs, denIt, denIfs, denEO, denOE, denOEs, denF, bnd, ret, readVar, peek, peekO, peekL, opn_bv, opn_var, opn_con, opn_glo, opn_tup, opn_lst, opn_bin, opn_sub, opn_att, opn_bi1, opn_call, opn_callK, opn_cmp, opn_ss, opn_sl, cmpM, subM, subB, attM, unaM, setSlot, setSlots, setV, setT, setTs, doCall, mutF, tst, andThen, ofO_s, leafD_l, tr_b, env_call, env_fn, env_wf, env_glob, conD, rtM, itD_l, itD_t, isiD, b1T, e, ho, e0, eall]
end K41
end Dm

namespace Dm
open PySem L2
theorem for_findM {α : Type} {t : Tg} {body : M Fl} (I J : St → Prop) (g : α → D) (pb : α → Bool) (o : α → OD) : ∀ {items : List α}, (∀ v ∈ items, ∀ s, I s → ∃ s1 s2, setT t (g v) s = some ((), s1) ∧ ((pb v = true ∧ body s1 = some (.rt (o v), s2) ∧ J s2) ∨ (pb v = false ∧ body s1 = some (.nx, s2) ∧ I s2))) →
    ∀ {s : St}, I s → ∃ s', (match items.find? pb with | some v => forM t body (items.map g) s = some (.rt (o v), s') ∧ J s' | none => forM t body (items.map g) s = some (.nx, s') ∧ I s')
  | [], _, s, hs => ⟨s, rfl, hs⟩
  | v :: items, h, s, hs => by
    obtain ⟨s1, s2, e1, hh⟩ := h v List.mem_cons_self s hs
    rcases hh with ⟨hp, e2, j2⟩ | ⟨hp, e2, i2⟩
    · refine ⟨s2, ?_⟩
      rw [List.find?_cons, hp]
      refine ⟨?_, j2⟩
      rw [List.map_cons, forM]
      simp only [bnd, e1, turnEnd, e2, ret]
    · obtain ⟨s', e3⟩ := for_findM I J g pb o (fun y hy => h y (List.mem_cons_of_mem _ hy)) i2
      refine ⟨s', ?_⟩
      rw [List.find?_cons, hp]
      simp only []
      split at e3
      · refine ⟨?_, e3.2⟩
        rw [List.map_cons, forM]
        simp only [bnd, e1, turnEnd, e2, e3.1]
      · refine ⟨?_, e3.2⟩
        rw [List.map_cons, forM]
        simp only [bnd, e1, turnEnd, e2, e3.1]
namespace K41
variable {n m : Nat} {S : List OD} {f : Nat → Nat → Nat}
def I (k : Nat) : Tr := .lf (.int k)
def vals (n : Nat) : List D := (List.range n).map fun (k : Nat) => D.int k
theorem lrng_ok (h : n ≤ 7) : lrngD (.int n) = some (.lst (vals n)) := by
  have : lrngD (.int n) = some (.lst (rangeD 0 n)) := by
    unfold lrngD
    simp only []
    rw [if_pos ⟨by omega, by omega, by omega⟩]
  rw [this]
  simp [rangeD, vals]
theorem vals_len : (vals n).length = n := by simp [vals]
theorem vals_mem {d : D} (h : d ∈ vals n) : ∃ k : Nat, k < n ∧ d = .int k := by
  unfold vals at h
  obtain ⟨y, hy, rfl⟩ := List.mem_map.mp h
  exact ⟨y, List.mem_range.mp hy, rfl⟩
def k1 (x : D) : D := .tup [.tup [x, x], x]
def k2 (x y : D) : D := .tup [.tup [x, y], .tup [y, x]]
def k3 (x y z : D) : D := .tup [.tup [.tup [x, y], z], .tup [x, .tup [y, z]]]
theorem c16_0_ok {y : Slot} (h : n ≤ 7) : den (G m) c16_0 ⟨[.val (.int n), .val (.lst (vals n)), y, .no, .no, .no], S⟩ = some (.lst ((vals n).map k1), ⟨[.val (.int n), .val (.lst (vals n)), y, .no, .no, .no], S⟩) := by
  refine comp1p k1 (.inl rfl) (it_l rfl) (by rw [vals_len]; unfold sizeLine; omega) fun v hv => ?_
  simp [exec, execs, den, dens, denB, denAs, denKs, denIt, denIfs, denEO, denOE, denOEs, denF, bnd, ret, readVar, peek, peekO, peekL, opn_bv, opn_var, opn_con, opn_glo, opn_tup, opn_lst, opn_bin, opn_sub, opn_att, opn_bi1, opn_call, opn_callK, opn_cmp, opn_ss, opn_sl, cmpM, subM, subB, attM, unaM, setSlot, setSlots, setV, setT, setTs, doCall, mutF, tst, andThen, ofO_s, leafD_l, tr_b, env_call, env_fn, env_wf, env_glob, conD, rtM, itD_l, itD_t, sizeLine, k1]
theorem flat_len {α β : Type} {g : α → List β} {c : Nat} : ∀ {xs : List α}, (∀ x ∈ xs, (g x).length = c) → (xs.map g).flatten.length = xs.length * c
  | [], _ => by simp
  | x :: xs, h => by
    rw [List.map_cons, List.flatten_cons, List.length_append, h x List.mem_cons_self, flat_len fun y hy => h y (List.mem_cons_of_mem _ hy), List.length_cons, Nat.add_mul, Nat.one_mul, Nat.add_comm]
/-- nothing is drawn: a block by its turns -/
theorem run_pure {α : Type} {ids : List Nat} {t : Tg} {body : M (List α)} {items : List D} {L L0 : List Slot} (g : D → List α) (hw : wipeL L ids = L0)
    (h : ∀ v ∈ items, ∃ L', (bnd (setT t v) fun _ => body) ⟨L0, S⟩ = some (g v, ⟨L', S⟩) ∧ wipeL L' ids = L0) :
    ∃ L', runItems ids t body items ⟨L, S⟩ = some ((items.map g).flatten, ⟨L', S⟩) ∧ wipeL L' ids = L0 := by
  obtain ⟨yss, S', L', e1, e2, e3, e4⟩ := run_sp (ids := ids) (t := t) (body := body) (items := items) (fun S' => S' = S) (fun v ys => ys = g v) (L0 := L0) (fun v hv S2 hS => by
    subst hS
    obtain ⟨L', h1, h2⟩ := h v hv
    exact ⟨_, _, L', rfl, rfl, h1, h2⟩) (L := L) hw rfl
  subst e1
  exact ⟨L', by rw [e3, forall₂_map e2], e4⟩
theorem one_pure {Γ : Env} {i : Nat} {x : Str} {p : Pos} {me : M D} {items : List D} {L : List Slot} (g : D → D) (hi : i < L.length) (h : ∀ v ∈ items, me ⟨L.set i (.val v), S⟩ = some (g v, ⟨L.set i (.val v), S⟩)) :
    ∃ L', runItems [i] (.nm i x p) (bnd (denIfs Γ .nil) fun b => if b then denDC me [] else ret []) items ⟨L, S⟩ = some (items.map g, ⟨L', S⟩) ∧ wipeL L' [i] = wipeL L [i] := by
  obtain ⟨ys, S', L', e1, e2, e3, e4⟩ := run1 (Γ := Γ) (x := x) (p := p) (me := me) (items := items) (fun S' => S' = S) (fun v a => a = g v) hi (fun v hv S2 hS => by subst hS; exact ⟨_, _, rfl, rfl, h v hv⟩) rfl
  subst e1
  rw [forall₂_map e2] at e3
  exact ⟨L', e3, e4⟩
theorem two_pure {Γ : Env} {me : M D} {mi mj : M (List D)} {x y : Str} {px py : Pos} {a b c : Slot} {items : List D} (g : D → D → D)
    (hi : mi ⟨[a, b, c, .no, .no, .no], S⟩ = some (items, ⟨[a, b, c, .no, .no, .no], S⟩)) (hj : ∀ v, mj ⟨[a, b, c, .val v, .no, .no], S⟩ = some (items, ⟨[a, b, c, .val v, .no, .no], S⟩))
    (h : ∀ v ∈ items, ∀ w ∈ items, me ⟨[a, b, c, .val v, .val w, .no], S⟩ = some (g v w, ⟨[a, b, c, .val v, .val w, .no], S⟩)) (hz : items.length ≤ 7) :
    compM [3, 4] me [⟨.nm 3 x px, mi, denIfs Γ .nil, [3, 4]⟩, ⟨.nm 4 y py, mj, denIfs Γ .nil, [4]⟩] ⟨[a, b, c, .no, .no, .no], S⟩ = some (.lst (items.map fun v => items.map (g v)).flatten, ⟨[a, b, c, .no, .no, .no], S⟩) := by
  simp only [compM]
  rw [bnd_ok hi]
  obtain ⟨L', e1, e2⟩ := run_pure (S := S) (ids := [3, 4]) (L := [a, b, c, .no, .no, .no]) (L0 := [a, b, c, .no, .no, .no]) (items := items) (t := .nm 3 x px) (fun v => items.map (g v)) rfl (body := bnd (denIfs Γ .nil) fun b => if b then denDC me [⟨.nm 4 y py, mj, denIfs Γ .nil, [4]⟩] else ret []) fun v hv => by
    obtain ⟨L', q1, q2⟩ := one_pure (S := S) (Γ := Γ) (i := 4) (x := y) (p := py) (me := me) (items := items) (L := [a, b, c, .val v, .no, .no]) (g v) (by simp) (fun w hw => h v hv w hw)
    refine ⟨L', ?_, ?_⟩
    · have hs : setT (.nm 3 x px) v ⟨[a, b, c, .no, .no, .no], S⟩ = some ((), ⟨[a, b, c, .val v, .no, .no], S⟩) := rfl
      rw [bnd_ok hs]
      simp only [denIfs, bnd_ok (show ret true _ = some (true, _) from rfl), if_true, denDC]
      rw [bnd_ok (hj v)]
      exact q1
    · have : wipeL L' [3, 4] = (wipeL L' [4]).set 3 .no := rfl
      rw [this, q2]
      rfl
  exact inScope_sp (ids := [3, 4]) e1 (by rw [e2]; rfl) rfl (by rw [flat_len (c := items.length) fun x _ => by simp]; unfold sizeLine; have := Nat.mul_le_mul hz hz; omega)
theorem three_pure {Γ : Env} {me : M D} {mi mj mk : M (List D)} {x y z : Str} {px py pz : Pos} {a b c : Slot} {items : List D} (g : D → D → D → D)
    (hi : mi ⟨[a, b, c, .no, .no, .no], S⟩ = some (items, ⟨[a, b, c, .no, .no, .no], S⟩)) (hj : ∀ v, mj ⟨[a, b, c, .val v, .no, .no], S⟩ = some (items, ⟨[a, b, c, .val v, .no, .no], S⟩))
    (hk : ∀ v w, mk ⟨[a, b, c, .val v, .val w, .no], S⟩ = some (items, ⟨[a, b, c, .val v, .val w, .no], S⟩))
    (h : ∀ v ∈ items, ∀ w ∈ items, ∀ u ∈ items, me ⟨[a, b, c, .val v, .val w, .val u], S⟩ = some (g v w u, ⟨[a, b, c, .val v, .val w, .val u], S⟩)) (hz : items.length ≤ 7) :
    compM [3, 4, 5] me [⟨.nm 3 x px, mi, denIfs Γ .nil, [3, 4, 5]⟩, ⟨.nm 4 y py, mj, denIfs Γ .nil, [4, 5]⟩, ⟨.nm 5 z pz, mk, denIfs Γ .nil, [5]⟩] ⟨[a, b, c, .no, .no, .no], S⟩ = some (.lst (items.map fun v => (items.map fun w => items.map (g v w)).flatten).flatten, ⟨[a, b, c, .no, .no, .no], S⟩) := by
  simp only [compM]
  rw [bnd_ok hi]
  obtain ⟨L', e1, e2⟩ := run_pure (S := S) (ids := [3, 4, 5]) (L := [a, b, c, .no, .no, .no]) (L0 := [a, b, c, .no, .no, .no]) (items := items) (t := .nm 3 x px) (fun v => (items.map fun w => items.map (g v w)).flatten) rfl (body := bnd (denIfs Γ .nil) fun b => if b then denDC me [⟨.nm 4 y py, mj, denIfs Γ .nil, [4, 5]⟩, ⟨.nm 5 z pz, mk, denIfs Γ .nil, [5]⟩] else ret []) fun v hv => by
    obtain ⟨L', q1, q2⟩ := run_pure (S := S) (ids := [4, 5]) (L := [a, b, c, .val v, .no, .no]) (L0 := [a, b, c, .val v, .no, .no]) (items := items) (t := .nm 4 y py) (fun w => items.map (g v w)) rfl (body := bnd (denIfs Γ .nil) fun b => if b then denDC me [⟨.nm 5 z pz, mk, denIfs Γ .nil, [5]⟩] else ret []) fun w hw => by
      obtain ⟨L', q1, q2⟩ := one_pure (S := S) (Γ := Γ) (i := 5) (x := z) (p := pz) (me := me) (items := items) (L := [a, b, c, .val v, .val w, .no]) (g v w) (by simp) (fun u hu => h v hv w hw u hu)
      refine ⟨L', ?_, ?_⟩
      · have hs : setT (.nm 4 y py) w ⟨[a, b, c, .val v, .no, .no], S⟩ = some ((), ⟨[a, b, c, .val v, .val w, .no], S⟩) := rfl
        rw [bnd_ok hs]
        simp only [denIfs, bnd_ok (show ret true _ = some (true, _) from rfl), if_true, denDC]
        rw [bnd_ok (hk v w)]
        exact q1
      · have : wipeL L' [4, 5] = (wipeL L' [5]).set 4 .no := rfl
        rw [this, q2]
        rfl
    refine ⟨L', ?_, ?_⟩
    · have hs : setT (.nm 3 x px) v ⟨[a, b, c, .no, .no, .no], S⟩ = some ((), ⟨[a, b, c, .val v, .no, .no], S⟩) := rfl
      rw [bnd_ok hs]
      simp only [denIfs, bnd_ok (show ret true _ = some (true, _) from rfl), if_true]
      rw [denDC, bnd_ok (hj v)]
      exact q1
    · have : wipeL L' [3, 4, 5] = (wipeL L' [4, 5]).set 3 .no := rfl
      rw [this, q2]
      rfl
  refine inScope_sp (ids := [3, 4, 5]) e1 (by rw [e2]; rfl) rfl ?_
  rw [flat_len (c := items.length * items.length) fun x _ => by rw [flat_len (c := items.length) fun y _ => by simp]]
  have h1 := Nat.mul_le_mul hz hz
  have h2 := Nat.mul_le_mul hz h1
  unfold sizeLine
  omega
theorem c16_1_ok {y : Slot} (h : n ≤ 7) : den (G m) c16_1 ⟨[.val (.int n), .val (.lst (vals n)), y, .no, .no, .no], S⟩ = some (.lst ((vals n).map fun a => (vals n).map (k2 a)).flatten, ⟨[.val (.int n), .val (.lst (vals n)), y, .no, .no, .no], S⟩) := by
  unfold c16_1
  rw [den]
  exact two_pure (Γ := G m) k2 (it_l rfl) (fun v => it_l rfl) (fun v hv w hw => by simp [exec, execs, den, dens, denB, denAs, denKs, denIt, denIfs, denEO, denOE, denOEs, denF, bnd, ret, readVar, peek, peekO, peekL, opn_bv, opn_var, opn_con, opn_glo, opn_tup, opn_lst, opn_bin, opn_sub, opn_att, opn_bi1, opn_call, opn_callK, opn_cmp, opn_ss, opn_sl, cmpM, subM, subB, attM, unaM, setSlot, setSlots, setV, setT, setTs, doCall, mutF, tst, andThen, ofO_s, leafD_l, tr_b, env_call, env_fn, env_wf, env_glob, conD, rtM, itD_l, itD_t, sizeLine, k2]) (by rw [vals_len]; exact h)
theorem c16_2_ok {y : Slot} (h : n ≤ 7) : den (G m) c16_2 ⟨[.val (.int n), .val (.lst (vals n)), y, .no, .no, .no], S⟩ = some (.lst ((vals n).map fun a => ((vals n).map fun b => (vals n).map (k3 a b)).flatten).flatten, ⟨[.val (.int n), .val (.lst (vals n)), y, .no, .no, .no], S⟩) := by
  unfold c16_2
  rw [den]
  exact three_pure (Γ := G m) k3 (it_l rfl) (fun v => it_l rfl) (fun v w => it_l rfl) (fun v hv w hw u hu => by simp [exec, execs, den, dens, denB, denAs, denKs, denIt, denIfs, denEO, denOE, denOEs, denF, bnd, ret, readVar, peek, peekO, peekL, opn_bv, opn_var, opn_con, opn_glo, opn_tup, opn_lst, opn_bin, opn_sub, opn_att, opn_bi1, opn_call, opn_callK, opn_cmp, opn_ss, opn_sl, cmpM, subM, subB, attM, unaM, setSlot, setSlots, setV, setT, setTs, doCall, mutF, tst, andThen, ofO_s, leafD_l, tr_b, env_call, env_fn, env_wf, env_glob, conD, rtM, itD_l, itD_t, sizeLine, k3]) (by rw [vals_len]; exact h)
def known (n : Nat) : List (Tr × Tr) := ((List.range n).map fun x => (.nd (I x) (I x), I x)) ++ ((List.range n).map fun x => (List.range n).map fun y => (Tr.nd (I x) (I y), Tr.nd (I y) (I x))).flatten ++
  ((List.range n).map fun x => ((List.range n).map fun y => (List.range n).map fun z => (Tr.nd (.nd (I x) (I y)) (I z), Tr.nd (I x) (.nd (I y) (I z)))).flatten).flatten
def pairD (p : Tr × Tr) : D := .tup [p.1.d, p.2.d]
theorem sp16 (h : n ≤ 7) (hm : 1 ≤ m) : cl m 16 [.val (.int n)] S = some (.leaf (.lst ((known n).map pairD)), S) := by
  have e0 := lrng_ok h
  have l0 : ((vals n).map k1).length = n := by rw [List.length_map, vals_len]
  have l1 : ((vals n).map fun a => (vals n).map (k2 a)).flatten.length = n * n := by rw [flat_len (c := n) fun x _ => by simp [vals], vals_len]
  have l2 : ((vals n).map fun a => ((vals n).map fun b => (vals n).map (k3 a b)).flatten).flatten.length = n * (n * n) := by
    rw [flat_len (c := n * n) fun x _ => by rw [flat_len (c := n) fun y _ => by simp [vals], vals_len], vals_len]
  have h1 := Nat.mul_le_mul h h
  have h2 := Nat.mul_le_mul h h1
  have g1 : exec (G (m - 1)) t16_0 ⟨[.val (.int n), .no, .no, .no, .no, .no], S⟩ = some (.nx, ⟨[.val (.int n), .val (.lst (vals n)), .no, .no, .no, .no], S⟩) := by
    exact x_setv (v_lrng (v_var rfl) e0) (by simp)
  have g2 : exec (G (m - 1)) t16_1 ⟨[.val (.int n), .val (.lst (vals n)), .no, .no, .no, .no], S⟩ = some (.nx, ⟨[.val (.int n), .val (.lst (vals n)), .val (.lst ((vals n).map k1 ++ ((vals n).map fun a => (vals n).map (k2 a)).flatten)), .no, .no, .no], S⟩) := by
    have a1 := bApp (xs := (vals n).map k1) (ys := ((vals n).map fun a => (vals n).map (k2 a)).flatten) (by rw [l0, l1]; unfold sizeLine; omega)
    exact x_setv (v_bin (c16_0_ok h) (c16_1_ok h) a1) (by simp)
  have hk : (vals n).map k1 ++ ((vals n).map fun a => (vals n).map (k2 a)).flatten ++ ((vals n).map fun a => ((vals n).map fun b => (vals n).map (k3 a b)).flatten).flatten = (known n).map pairD := by
    simp [known, vals, pairD, k1, k2, k3, Tr.d, I, List.map_flatten, Function.comp_def]
  refine call_ok (d := d16) rfl hm rfl (L' := [.val (.int n), .val (.lst (vals n)), .val (.lst ((vals n).map k1 ++ ((vals n).map fun a => (vals n).map (k2 a)).flatten)), .no, .no, .no]) ?_
  show execs _ (.cons t16_0 (.cons t16_1 (.cons t16_2 .nil))) ⟨[.val (.int n), .no, .no, .no, .no, .no], S⟩ = _
  rw [r_nx g1, r_nx g2]
  refine r_rt ?_
  have a2 := bApp (xs := (vals n).map k1 ++ ((vals n).map fun a => (vals n).map (k2 a)).flatten) (ys := ((vals n).map fun a => ((vals n).map fun b => (vals n).map (k3 a b)).flatten).flatten) (by rw [List.length_append, l0, l1, l2]; unfold sizeLine; omega)
  rw [hk] at a2
  exact x_ret (v_bin (v_var rfl) (c16_2_ok h) a2)
end K41
end Dm

namespace Dm
open PySem L2
namespace K41
variable {n m : Nat} {S : List OD} {f : Nat → Nat → Nat}
theorem known_mem {p : Tr × Tr} : p ∈ known n ↔ (∃ x, x < n ∧ p = (.nd (I x) (I x), I x)) ∨ (∃ x y, x < n ∧ y < n ∧ p = (.nd (I x) (I y), .nd (I y) (I x))) ∨ ∃ x y z, x < n ∧ y < n ∧ z < n ∧ p = (.nd (.nd (I x) (I y)) (I z), .nd (I x) (.nd (I y) (I z))) := by
  unfold known
  simp only [List.mem_append, List.mem_map, List.mem_flatten, List.mem_range, or_assoc]
  constructor
  · rintro (⟨x, hx, rfl⟩ | ⟨l, ⟨x, hx, rfl⟩, hl⟩ | ⟨l, ⟨x, hx, rfl⟩, hl⟩)
    · exact .inl ⟨x, hx, rfl⟩
    · obtain ⟨y, hy, rfl⟩ := List.mem_map.mp hl
      exact .inr (.inl ⟨x, y, hx, List.mem_range.mp hy, rfl⟩)
    · obtain ⟨l', h1, h2⟩ := List.mem_flatten.mp hl
      obtain ⟨y, hy, rfl⟩ := List.mem_map.mp h1
      obtain ⟨z, hz, rfl⟩ := List.mem_map.mp h2
      exact .inr (.inr ⟨x, y, z, hx, List.mem_range.mp hy, List.mem_range.mp hz, rfl⟩)
  · rintro (⟨x, hx, rfl⟩ | ⟨x, y, hx, hy, rfl⟩ | ⟨x, y, z, hx, hy, hz, rfl⟩)
    · exact .inl ⟨x, hx, rfl⟩
    · exact .inr (.inl ⟨_, ⟨x, hx, rfl⟩, List.mem_map.mpr ⟨y, List.mem_range.mpr hy, rfl⟩⟩)
    · exact .inr (.inr ⟨_, ⟨x, hx, rfl⟩, List.mem_flatten.mpr ⟨_, List.mem_map.mpr ⟨y, List.mem_range.mpr hy, rfl⟩, List.mem_map.mpr ⟨z, List.mem_range.mpr hz, rfl⟩⟩⟩)
theorem I_ml {x : Nat} (h : x < n) : (I x).ml n = true := by
  simp [I, Tr.ml, Tr.lv, isV]; omega
theorem known_ok {p : Tr × Tr} (h : p ∈ known n) : p.1.ml n = true ∧ p.2.ml n = true ∧ p.1.dep ≤ 2 ∧ p.2.dep ≤ 2 ∧ p.1.cnt ≤ 3 ∧ p.2.cnt ≤ 3 ∧ ssI (intsD p.1.lv) = ssI (intsD p.2.lv) := by
  rcases known_mem.mp h with ⟨x, hx, rfl⟩ | ⟨x, y, hx, hy, rfl⟩ | ⟨x, y, z, hx, hy, hz, rfl⟩
  · refine ⟨?_, I_ml hx, by simp [I, Tr.dep], by simp [I, Tr.dep], by simp [I, Tr.cnt], by simp [I, Tr.cnt], ss_ext fun i => ?_⟩
    · simp only [Tr.ml_nd, I_ml hx]; rfl
    · simp [I, Tr.lv, intsD_mem]
  · refine ⟨?_, ?_, by simp [I, Tr.dep], by simp [I, Tr.dep], by simp [I, Tr.cnt], by simp [I, Tr.cnt], ss_ext fun i => ?_⟩
    · simp only [Tr.ml_nd, I_ml hx, I_ml hy]; rfl
    · simp only [Tr.ml_nd, I_ml hx, I_ml hy]; rfl
    · simp [I, Tr.lv, intsD_mem]; exact Or.comm
  · refine ⟨?_, ?_, by simp [I, Tr.dep], by simp [I, Tr.dep], by simp [I, Tr.cnt], by simp [I, Tr.cnt], ss_ext fun i => ?_⟩
    · simp only [Tr.ml_nd, I_ml hx, I_ml hy, I_ml hz]; rfl
    · simp only [Tr.ml_nd, I_ml hx, I_ml hy, I_ml hz]; rfl
    · simp [I, Tr.lv, intsD_mem]
def pt (n : Nat) (f : Nat → Nat → Nat) : Option (Tr × Tr) := (known n).find? fun p => !(p.1.res f == p.2.res f)
def ptD (n : Nat) (f : Nat → Nat → Nat) : D := match pt n f with
  | some p => pairD p
  | none => .non
theorem v_lenO {Γ : Env} {p q : Pos} {e : E} {s s1 : St} (h : den Γ e s = some (tabD n f, s1)) (hn : n ≤ 7) (hc : Γ.call 6 [.val (tabD n f)] s1.S = some (.leaf (.int n), s1.S)) : den Γ (.lenO 0 6 p e q) s = some (.int n, s1) := by
  rw [den, bnd_ok h]
  unfold tabD at hc ⊢
  unfold lenM
  simp only [if_true]
  rw [bnd_ok (show doCall Γ 6 _ s1 = some (.leaf (.int n), s1) by unfold doCall; rw [hc])]
  simp only []
  rw [if_pos (by omega)]
  rfl
theorem ne_int {a b : Nat} : cmpD .NotEq (.int a) (.int b) = some (.bl (!(a == b))) := by
  simp only [cmpD, eq_int, Option.map_some, int_beq]
theorem sp17 (hT : Tb n f) (hm : 6 ≤ m) : cl m 17 [.val (tabD n f)] S = some (.leaf (ptD n f), S) := by
  have h7 := hT.most
  have e16 := sp16 (m := m - 1) (n := n) (S := S) h7 (by omega)
  have e6 := sp6 (m := m - 1) (n := n) (f := f) (S := S) (by omega)
  have hit : denIt (G (m - 1)) (.e (.call 16 "known_pairs" (P 86 22 33) (.val (.lenO 0 6 (P 86 34 37) (.var 0 "table" (P 86 38 43)) (P 86 34 44)) .nil) (P 86 22 45))) ⟨[.val (tabD n f), .no, .no], S⟩ = some ((known n).map pairD, ⟨[.val (tabD n f), .no, .no], S⟩) := by
    rw [denIt, bnd_ok (v_call (a_val (v_lenO (v_var rfl) h7 e6) a_nil) e16)]
    rfl
  obtain ⟨s', hf⟩ := for_findM (t := .tp (.cons (.nm 1 "one" (P 86 8 11)) (.cons (.nm 2 "other" (P 86 13 18)) .nil)) 0 (P 86 8 18)) (body := execs (G (m - 1)) s17_1) (fun s => ∃ y1 y2, s = ⟨[.val (tabD n f), y1, y2], S⟩) (fun s => s.S = S) pairD (fun p => !(p.1.res f == p.2.res f)) (fun p => .leaf (pairD p)) (items := known n)
    (fun p hp s hs => by
      obtain ⟨y1, y2, rfl⟩ := hs
      obtain ⟨a, b⟩ := p
      obtain ⟨q1, q2, q3, q4, _⟩ := known_ok hp
      have ra := sp14 (m := m - 1) (S := S) hT q1 (by simp only at q3 ⊢; omega)
      have rb := sp14 (m := m - 1) (S := S) hT q2 (by simp only at q4 ⊢; omega)
      refine ⟨⟨[.val (tabD n f), .val a.d, .val b.d], S⟩, ⟨[.val (tabD n f), .val a.d, .val b.d], S⟩, by simp [setT, setTs, setV, pairD, bnd, ret], ?_⟩
      have ec : den (G (m - 1)) (.cmp (.call 14 "result_of" (P 87 11 20) (.share 0 "table" (P 87 21 26) (.share 1 "one" (P 87 28 31) .nil)) (P 87 11 32)) .NotEq (.call 14 "result_of" (P 87 36 45) (.share 0 "table" (P 87 46 51) (.share 2 "other" (P 87 53 58) .nil)) (P 87 36 59)) (P 87 11 59)) ⟨[.val (tabD n f), .val a.d, .val b.d], S⟩ = some (.bl (!(a.res f == b.res f)), ⟨[.val (tabD n f), .val a.d, .val b.d], S⟩) :=
        v_cmp (fun _ _ _ z => by cases z) (fun _ _ _ z => by cases z) (v_call (a_shv rfl (a_shv rfl a_nil)) ra) (v_call (a_shv rfl (a_shv rfl a_nil)) rb) ne_int
      cases hb : (!(a.res f == b.res f)) with
      | true =>
        refine .inl ⟨rfl, ?_, rfl⟩
        rw [hb] at ec
        exact r_rt (x_iff_t ec (r_rt (x_ret (by simp [exec, execs, den, dens, denB, denAs, denKs, denIt, denIfs, denEO, denOE, denOEs, denF, bnd, ret, readVar, peek, peekO, peekL, opn_bv, opn_var, opn_con, opn_glo, opn_tup, opn_lst, opn_bin, opn_sub, opn_att, opn_bi1, opn_call, opn_callK, opn_cmp, opn_ss, opn_sl, cmpM, subM, subB, attM, unaM, setSlot, setSlots, setV, setT, setTs, doCall, mutF, tst, andThen, ofO_s, leafD_l, tr_b, env_call, env_fn, env_wf, env_glob, conD, rtM, itD_l, itD_t, sizeLine, pairD]))))
      | false =>
        refine .inr ⟨rfl, ?_, _, _, rfl⟩
        rw [hb] at ec
        exact (r_nx (x_skip ec)).trans rfl) (s := ⟨[.val (tabD n f), .no, .no], S⟩) ⟨_, _, rfl⟩
  refine call_okE (d := d17) rfl (by omega) rfl ?_
  show ∃ L', execs _ (.cons t17_0 (.cons t17_1 .nil)) ⟨[.val (tabD n f), .no, .no], S⟩ = some (.rt (.leaf (ptD n f)), ⟨L', S⟩)
  have e0 : exec (G (m - 1)) t17_0 ⟨[.val (tabD n f), .no, .no], S⟩ = forM (.tp (.cons (.nm 1 "one" (P 86 8 11)) (.cons (.nm 2 "other" (P 86 13 18)) .nil)) 0 (P 86 8 18)) (execs (G (m - 1)) s17_1) ((known n).map pairD) ⟨[.val (tabD n f), .no, .no], S⟩ := by
    rw [t17_0, exec, bnd_ok hit]
  unfold ptD pt
  cases hq : (known n).find? fun p => !(p.1.res f == p.2.res f) with
  | some p =>
    simp only [hq] at hf
    obtain ⟨L, S2⟩ := s'
    obtain ⟨h1, h2⟩ := hf
    simp only at h2
    subst h2
    exact ⟨L, r_rt (e0.trans h1)⟩
  | none =>
    simp only [hq] at hf
    obtain ⟨h1, y1, y2, rfl⟩ := hf
    refine ⟨[.val (tabD n f), y1, y2], ?_⟩
    rw [r_nx (e0.trans h1)]
    exact r_rt (x_ret (v_con rfl))
def mB (n : Nat) (f : Nat → Nat → Nat) : Bool := (pt n f).isNone
theorem is_non : cmpD .Is (ptD n f) .non = some (.bl (mB n f)) := by
  unfold ptD mB
  cases pt n f <;> rfl
theorem sp18 (hT : Tb n f) (hm : 7 ≤ m) : cl m 18 [.val (tabD n f)] S = some (.leaf (.bl (mB n f)), S) := by
  refine call_ok (d := d18) rfl (by omega) rfl (L' := [.val (tabD n f)]) ?_
  exact r_rt (x_ret (v_cmp (fun _ _ _ z => by cases z) (fun _ _ _ z => by cases z) (v_call (a_shv rfl a_nil) (sp17 (m := m - 1) hT (by omega))) (v_con rfl) is_non))
theorem sp19 (hT : Tb n f) (hm : 8 ≤ m) : cl m 19 [.val (tabD n f)] S = some (.leaf (.bl (mB n f)), S) := by
  refine call_ok (d := d19) rfl (by omega) rfl (L' := [.val (tabD n f)]) ?_
  exact r_rt (x_ret (v_call (a_shv rfl a_nil) (sp18 (m := m - 1) hT (by omega))))
/-! ### the law's own -/
def bad (n : Nat) (f : Nat → Nat → Nat) (x y : Nat) : Bool := !(f x x == x) || !(f x y == f y x) || (List.range n).any fun z => !(f (f x y) z == f x (f y z))
theorem rx (hT : Tb n f) {x : Nat} (h : x < n) : ixD (rowsD n f) (.int x) = some (.lst (rowL n (f x))) := ix_l (rowsL_at h)
theorem ry {g : Nat → Nat} {y : Nat} (h : y < n) : ixD (.lst (rowL n g)) (.int y) = some (.int (g y)) := ix_l (rowL_at h)
theorem sp28 (hT : Tb n f) (hm : 1 ≤ m) : cl m 28 [.val (rowsD n f)] S = some (.leaf (.bl (!((List.range n).any fun x => (List.range n).any (bad n f x)))), S) := by
  have h7 := hT.most
  have el : bi1D .len (rowsD n f) = some (.int n) := by unfold rowsD; rw [b1L, rowsL_len]
  have g0 : exec (G (m - 1)) t28_0 ⟨[.val (rowsD n f), .no, .no, .no, .no], S⟩ = some (.nx, ⟨[.val (rowsD n f), .val (.lst (vals n)), .no, .no, .no], S⟩) :=
    x_setv (v_lrng (v_bi1 (fun _ _ _ z => by cases z) (v_var rfl) el) (lrng_ok h7)) (by simp)
  -- the inner loop
  have inner : ∀ x, x < n → ∀ y3 y4, (y4 = .no ∨ ∃ d, y4 = .val d) → ∃ s', (match (List.range n).find? (bad n f x) with
      | some _ => exec (G (m - 1)) u28_4 ⟨[.val (rowsD n f), .val (.lst (vals n)), .val (.int x), y3, y4], S⟩ = some (.rt (.leaf (.bl false)), s') ∧ s'.S = S
      | none => exec (G (m - 1)) u28_4 ⟨[.val (rowsD n f), .val (.lst (vals n)), .val (.int x), y3, y4], S⟩ = some (.nx, s') ∧ ∃ y3 y4, (y4 = .no ∨ ∃ d, y4 = .val d) ∧ s' = ⟨[.val (rowsD n f), .val (.lst (vals n)), .val (.int x), y3, y4], S⟩) := by
    intro x hx y3 y4 hy4
    obtain ⟨s', hf⟩ := for_findM (t := .nm 3 "_law_y" (P 141 12 18)) (body := execs (G (m - 1)) s28_2) (fun s => ∃ y3 y4, (y4 = .no ∨ ∃ d, y4 = .val d) ∧ s = ⟨[.val (rowsD n f), .val (.lst (vals n)), .val (.int x), y3, y4], S⟩) (fun s => s.S = S) (fun (k : Nat) => .int k) (bad n f x) (fun _ => .leaf (.bl false)) (items := List.range n)
      (fun y hy s hs => by
        have hy := List.mem_range.mp hy
        obtain ⟨y3, y4, h4, rfl⟩ := hs
        have hxy := hT.in' x hx y hy
        have hyx := hT.in' y hy x hx
        refine ⟨⟨[.val (rowsD n f), .val (.lst (vals n)), .val (.int x), .val (.int y), y4], S⟩, ⟨[.val (rowsD n f), .val (.lst (vals n)), .val (.int x), .val (.int y), y4], S⟩, by simp [setT, setV], ?_⟩
        have ec : den (G (m - 1)) c28_0 ⟨[.val (rowsD n f), .val (.lst (vals n)), .val (.int x), .val (.int y), y4], S⟩ = some (.lst ((vals n).map fun d => .bl (match d with | .int z => !(f (f x y) z.toNat == f x (f y z.toNat)) | _ => false)), ⟨[.val (rowsD n f), .val (.lst (vals n)), .val (.int x), .val (.int y), y4], S⟩) := by
          refine comp1p _ (by rcases h4 with rfl | ⟨d, rfl⟩ <;> simp) (it_l rfl) (by rw [vals_len]; unfold sizeLine; omega) fun v hv => ?_
          obtain ⟨z, hz, rfl⟩ := vals_mem hv
          have i1 := rx hT hx
          have i2 := ry (g := f x) hy
          have i3 := rx hT hxy
          have i4 := ry (g := f (f x y)) hz
          have i5 := rx hT hy
          have i6 := ry (g := f y) hz
          have i7 := ry (g := f x) (hT.in' y hy z hz)
          exact v_cmp (fun _ _ _ z => by cases z) (fun _ _ _ z => by cases z)
            (v_sub (fun _ _ _ z => by cases z) (v_sub (fun _ _ _ z => by cases z) (v_var rfl) (v_sub (fun _ _ _ z => by cases z) (v_sub (fun _ _ _ z => by cases z) (v_var rfl) (v_var rfl) i1) (v_var rfl) i2) i3) (v_var rfl) i4)
            (v_sub (fun _ _ _ z => by cases z) (v_sub (fun _ _ _ z => by cases z) (v_var rfl) (v_var rfl) i1) (v_sub (fun _ _ _ z => by cases z) (v_sub (fun _ _ _ z => by cases z) (v_var rfl) (v_var rfl) i5) (v_var rfl) i6) i7) (by simpa using ne_int (a := f (f x y) z) (b := f x (f y z)))
        have ea : bi1D .any (.lst ((vals n).map fun d => .bl (match d with | .int z => !(f (f x y) z.toNat == f x (f y z.toNat)) | _ => false))) = some (.bl ((List.range n).any fun z => !(f (f x y) z == f x (f y z)))) := by
          rw [anyBl_map]
          simp [vals, List.any_map, Function.comp_def]
        have i1 := rx hT hx
        have i2 := ry (g := f x) hy
        have i3 := rx hT hy
        have i4 := ry (g := f y) hx
        have i5 := ry (g := f x) hx
        have c1 := ne_int (a := f x x) (b := x)
        have c2 := ne_int (a := f x y) (b := f y x)
        have ho : ∀ mm, opn mm c28_0 = mm := fun _ => rfl
        have eb : bad n f x y = (!(f x x == x) || !(f x y == f y x) || (List.range n).any fun z => !(f (f x y) z == f x (f y z))) := rfl
        generalize (List.range n).any (fun z => !(f (f x y) z == f x (f y z))) = b3 at *
        generalize (!(f x x == x)) = b1 at *
        generalize (!(f x y == f y x)) = b2 at *
        cases b1 with
        | true =>
          refine .inl ⟨by rw [eb]; rfl, ?_, rfl⟩
          refine r_rt ?_
          simp only [u28_1, s28_0, u28_0, exec, execs, den, dens, denB, denAs, denKs, denIt, denIfs, denEO, denOE, denOEs, denF, bnd, ret, readVar, peek, peekO, peekL, opn_bv, opn_var, opn_con, opn_glo, opn_tup, opn_lst, opn_bin, opn_sub, opn_att, opn_bi1, opn_call, opn_callK, opn_cmp, opn_ss, opn_sl, cmpM, subM, subB, attM, unaM, setSlot, setSlots, setV, setT, setTs, doCall, mutF, tst, andThen, ofO_s, leafD_l, tr_b, env_call, env_fn, env_wf, env_glob, conD, rtM, itD_l, itD_t, i1, i5, c1, List.getElem?_cons_zero, List.getElem?_cons_succ, if_true]
        | false =>
          cases b2 with
          | true =>
            refine .inl ⟨by rw [eb]; rfl, ?_, rfl⟩
            refine r_rt ?_
            simp only [u28_1, s28_0, u28_0, exec, execs, den, dens, denB, denAs, denKs, denIt, denIfs, denEO, denOE, denOEs, denF, bnd, ret, readVar, peek, peekO, peekL, opn_bv, opn_var, opn_con, opn_glo, opn_tup, opn_lst, opn_bin, opn_sub, opn_att, opn_bi1, opn_call, opn_callK, opn_cmp, opn_ss, opn_sl, cmpM, subM, subB, attM, unaM, setSlot, setSlots, setV, setT, setTs, doCall, mutF, tst, andThen, ofO_s, leafD_l, tr_b, env_call, env_fn, env_wf, env_glob, conD, rtM, itD_l, itD_t, i1, i2, i3, i4, i5, c1, c2, List.getElem?_cons_zero, List.getElem?_cons_succ, if_true, if_false, Bool.false_eq_true]
          | false =>
            have g1 : exec (G (m - 1)) u28_1 ⟨[.val (rowsD n f), .val (.lst (vals n)), .val (.int x), .val (.int y), y4], S⟩ = some (.nx, ⟨[.val (rowsD n f), .val (.lst (vals n)), .val (.int x), .val (.int y), y4], S⟩) := by
              simp only [u28_1, exec, execs, den, dens, denB, denAs, denKs, denIt, denIfs, denEO, denOE, denOEs, denF, bnd, ret, readVar, peek, peekO, peekL, opn_bv, opn_var, opn_con, opn_glo, opn_tup, opn_lst, opn_bin, opn_sub, opn_att, opn_bi1, opn_call, opn_callK, opn_cmp, opn_ss, opn_sl, cmpM, subM, subB, attM, unaM, setSlot, setSlots, setV, setT, setTs, doCall, mutF, tst, andThen, ofO_s, leafD_l, tr_b, env_call, env_fn, env_wf, env_glob, conD, rtM, itD_l, itD_t, i1, i2, i3, i4, i5, c1, c2, List.getElem?_cons_zero, List.getElem?_cons_succ, if_true, if_false, Bool.false_eq_true]
            have g2 : den (G (m - 1)) (.bi1 .any (P 144 15 18) c28_0 (P 144 15 138)) ⟨[.val (rowsD n f), .val (.lst (vals n)), .val (.int x), .val (.int y), y4], S⟩ = some (.bl b3, ⟨[.val (rowsD n f), .val (.lst (vals n)), .val (.int x), .val (.int y), y4], S⟩) := v_bi1 (fun _ _ _ z => by cases z) ec ea
            cases b3 with
            | true =>
              refine .inl ⟨by rw [eb]; rfl, ?_, rfl⟩
              unfold s28_2
              rw [r_nx g1]
              exact r_rt (x_iff_t g2 (r_rt (x_ret (v_con rfl))))
            | false =>
              refine .inr ⟨by rw [eb]; rfl, ?_, _, _, h4, rfl⟩
              unfold s28_2
              rw [r_nx g1]
              exact (r_nx (x_skip g2)).trans rfl) (s := ⟨[.val (rowsD n f), .val (.lst (vals n)), .val (.int x), y3, y4], S⟩) ⟨_, _, hy4, rfl⟩
    refine ⟨s', ?_⟩
    have e0 : exec (G (m - 1)) u28_4 ⟨[.val (rowsD n f), .val (.lst (vals n)), .val (.int x), y3, y4], S⟩ = forM (.nm 3 "_law_y" (P 141 12 18)) (execs (G (m - 1)) s28_2) ((List.range n).map fun (k : Nat) => D.int k) ⟨[.val (rowsD n f), .val (.lst (vals n)), .val (.int x), y3, y4], S⟩ := by
      rw [u28_4, exec, bnd_ok (it_l rfl)]; rfl
    cases hq : (List.range n).find? (bad n f x) with
    | some y =>
      simp only [hq] at hf ⊢
      exact ⟨e0.trans hf.1, hf.2⟩
    | none =>
      simp only [hq] at hf ⊢
      exact ⟨e0.trans hf.1, hf.2⟩
  have fa : ∀ x, ((List.range n).find? (bad n f x)).isSome = (List.range n).any (bad n f x) := fun x => by
    rw [Bool.eq_iff_iff, List.find?_isSome, List.any_eq_true]
  obtain ⟨s', hf⟩ := for_findM (t := .nm 2 "_law_x" (P 140 8 14)) (body := execs (G (m - 1)) s28_3) (fun s => ∃ y2 y3 y4, (y4 = .no ∨ ∃ d, y4 = .val d) ∧ s = ⟨[.val (rowsD n f), .val (.lst (vals n)), y2, y3, y4], S⟩) (fun s => s.S = S) (fun (k : Nat) => .int k) (fun x => (List.range n).any (bad n f x)) (fun _ => .leaf (.bl false)) (items := List.range n)
    (fun x hx s hs => by
      have hx := List.mem_range.mp hx
      obtain ⟨y2, y3, y4, h4, rfl⟩ := hs
      obtain ⟨s', hi⟩ := inner x hx y3 y4 h4
      refine ⟨⟨[.val (rowsD n f), .val (.lst (vals n)), .val (.int x), y3, y4], S⟩, s', by simp [setT, setV], ?_⟩
      rw [← fa x]
      cases hq : (List.range n).find? (bad n f x) with
      | some y =>
        simp only [hq] at hi
        exact .inl ⟨rfl, r_rt hi.1, hi.2⟩
      | none =>
        simp only [hq] at hi
        obtain ⟨h1, y3', y4', h4', rfl⟩ := hi
        exact .inr ⟨rfl, (r_nx h1).trans rfl, _, _, _, h4', rfl⟩) (s := ⟨[.val (rowsD n f), .val (.lst (vals n)), .no, .no, .no], S⟩) ⟨_, _, _, .inl rfl, rfl⟩
  have e0 : exec (G (m - 1)) t28_1 ⟨[.val (rowsD n f), .val (.lst (vals n)), .no, .no, .no], S⟩ = forM (.nm 2 "_law_x" (P 140 8 14)) (execs (G (m - 1)) s28_3) ((List.range n).map fun (k : Nat) => D.int k) ⟨[.val (rowsD n f), .val (.lst (vals n)), .no, .no, .no], S⟩ := by
    rw [t28_1, exec, bnd_ok (it_l rfl)]; rfl
  have fa2 : ((List.range n).find? fun x => (List.range n).any (bad n f x)).isSome = (List.range n).any fun x => (List.range n).any (bad n f x) := by
    rw [Bool.eq_iff_iff, List.find?_isSome, List.any_eq_true]
  refine call_okE (d := d28) rfl (by omega) rfl ?_
  show ∃ L', execs _ (.cons t28_0 (.cons t28_1 (.cons t28_2 .nil))) ⟨[.val (rowsD n f), .no, .no, .no, .no], S⟩ = some (.rt (.leaf (.bl _)), ⟨L', S⟩)
  rw [r_nx g0, ← fa2]
  cases hq : (List.range n).find? fun x => (List.range n).any (bad n f x) with
  | some x =>
    simp only [hq] at hf
    obtain ⟨L, S2⟩ := s'
    obtain ⟨h1, h2⟩ := hf
    simp only at h2
    subst h2
    exact ⟨L, r_rt (e0.trans h1)⟩
  | none =>
    simp only [hq] at hf
    obtain ⟨h1, y2, y3, y4, _, rfl⟩ := hf
    refine ⟨[.val (rowsD n f), .val (.lst (vals n)), y2, y3, y4], ?_⟩
    rw [r_nx (e0.trans h1)]
    exact r_rt (x_ret (v_con rfl))
end K41
end Dm

namespace Dm
open PySem L2
theorem sl_to {xs : List D} {k : Nat} (h : k ≤ xs.length) : slD (.lst xs) none (some (k : Int)) = some (.lst (xs.take k)) := by
  simp only [slD, cutD, HT.sIx_none, HT.sIx_nat, List.drop_zero, Nat.sub_zero, Nat.min_eq_left h]
theorem sl_from {xs : List D} {k : Nat} (h : k ≤ xs.length) : slD (.lst xs) (some (k : Int)) none = some (.lst (xs.drop k)) := by
  simp only [slD, cutD, HT.sIx_none, HT.sIx_nat, Nat.min_eq_left h]
  rw [List.take_of_length_le (by rw [List.length_drop]; omega)]
section
variable {Γ : Env}
theorem v_slU {a e : E} {p q : Pos} {s s1 s2 : St} {x d : D} {k : Int} (ha : den Γ a s = some (x, s1)) (he : den Γ e s1 = some (.int k, s2)) (h : slD x none (some k) = some d) : den Γ (.sl a .no (.yes e) p q) s = some (d, s2) := by
  rw [den, bnd_ok ha, denEO, denEO, bnd_ok (show ret none s1 = some (none, s1) from rfl), mOpt, bnd_ok (bnd_ok he), h]; rfl
theorem v_slD {a e : E} {p q : Pos} {s s1 s2 : St} {x d : D} {k : Int} (ha : den Γ a s = some (x, s1)) (he : den Γ e s1 = some (.int k, s2)) (h : slD x (some k) none = some d) : den Γ (.sl a (.yes e) .no p q) s = some (d, s2) := by
  rw [den, bnd_ok ha, denEO, denEO, mOpt, bnd_ok (bnd_ok he)]
  rw [bnd_ok (show ret none s2 = some (none, s2) from rfl), h]; rfl
theorem tst_ok {e : E} {s s1 : St} {b : Bool} (h : den Γ e s = some (.bl b, s1)) : tst Γ e s = some (b, s1) := by
  unfold tst
  rw [bnd_ok h]; rfl
theorem v_tup2 {a b : E} {k : Nat} {p : Pos} {s s1 s2 : St} {x y : D} (ha : den Γ a s = some (x, s1)) (hb : den Γ b s1 = some (y, s2)) : den Γ (.tup (.cons a (.cons b .nil)) k p) s = some (.tup [x, y], s2) := by
  simp only [den, dens, bnd, ha, hb, ret, List.length_cons, List.length_nil, sizeLine]
  rfl
theorem v_lst1 {a : E} {p : Pos} {s s1 : St} {x : D} (ha : den Γ a s = some (x, s1)) : den Γ (.lst (.cons a .nil) p) s = some (.lst [x], s1) := by
  simp only [den, dens, bnd, ha, ret, List.length_cons, List.length_nil, sizeLine]
  rfl
theorem v_lst2 {a b : E} {p : Pos} {s s1 s2 : St} {x y : D} (ha : den Γ a s = some (x, s1)) (hb : den Γ b s1 = some (y, s2)) : den Γ (.lst (.cons a (.cons b .nil)) p) s = some (.lst [x, y], s2) := by
  simp only [den, dens, bnd, ha, hb, ret, List.length_cons, List.length_nil, sizeLine]
  rfl
end
namespace K41
variable {n m : Nat} {S : List OD} {f : Nat → Nat → Nat}
theorem Tr.dep_cnt : ∀ t : Tr, t.dep + 1 ≤ t.cnt
  | .lf _ => Nat.le_refl _
  | .nd a b => by
    have h1 := Tr.dep_cnt a
    have h2 := Tr.dep_cnt b
    rw [Tr.dep, Tr.cnt]
    omega
theorem grouped_loop (hm : 1 ≤ m) {x : Slot} : ∀ (k : Nat) {ws : List Tr} {S : List OD} {y : Slot}, ws ≠ [] → ws.length < k + 1 → ws.length < 100 → (∀ w ∈ ws, w.ml n = true) → Pot S →
    ∃ (t : Tr) (S' : List OD) (y' : Slot), Pot S' ∧ t.ml n = true ∧ t.vl = ws.flatMap Tr.vl ∧ whileM (tst (G m) c31_0) (execs (G m) s31_0) k ⟨[.ref 0, x, .val (.lst (ws.map Tr.d)), y], S⟩ = some (.nx, ⟨[.ref 0, x, .val (.lst [t.d]), y'], S'⟩)
  | 0, ws, S, y, h0, h1, _, _, _ => by
    cases ws with
    | nil => exact absurd rfl h0
    | cons => simp at h1
  | k + 1, ws, S, y, h0, h1, h2, hw, hS => by
    have hl : 0 < ws.length := List.length_pos_iff.mpr h0
    have bl : bi1D .len (.lst (ws.map Tr.d)) = some (.int ws.length) := by rw [b1L, List.length_map]
    by_cases hq : 1 < ws.length
    · have e1 : tst (G m) c31_0 ⟨[.ref 0, x, .val (.lst (ws.map Tr.d)), y], S⟩ = some (true, ⟨[.ref 0, x, .val (.lst (ws.map Tr.d)), y], S⟩) := by
        have c : cmpD .Gt (.int ws.length) (.int 1) = some (.bl true) := by simp [cmpD, cmpI]; omega
        exact tst_ok (v_cmp (fun _ _ _ z => by cases z) (fun _ _ _ z => by cases z) (v_bi1 (fun _ _ _ z => by cases z) (v_var rfl) bl) (v_con rfl) c)
      obtain ⟨r, S1, hp, hr, ed⟩ := draw (n := m) (S := S) hm (m := (ws.length : Int) - 1) (by omega) (by omega) hS
      have hr1 : r + 1 < ws.length := by omega
      have hr0 : r < ws.length := by omega
      let ws' := ws.take r ++ [Tr.nd ws[r] ws[r + 1]] ++ ws.drop (r + 2)
      have hlen : ws'.length = ws.length - 1 := by simp [ws']; omega
      have hsp : ws = ws.take r ++ (ws[r] :: ws[r + 1] :: ws.drop (r + 2)) := by
        rw [← List.drop_eq_getElem_cons hr1, ← List.drop_eq_getElem_cons hr0, List.take_append_drop]
      have hml : ∀ w ∈ ws', w.ml n = true := fun w hw' => by
        simp only [ws', List.mem_append, List.mem_singleton] at hw'
        rcases hw' with (hw' | rfl) | hw'
        · exact hw w (List.mem_of_mem_take hw')
        · rw [Tr.ml_nd, hw _ (List.getElem_mem hr0), hw _ (List.getElem_mem hr1)]; rfl
        · exact hw w (List.mem_of_mem_drop hw')
      obtain ⟨t, S', y', p1, p2, p3, p4⟩ := grouped_loop hm (x := x) k (ws := ws') (S := S1) (y := .val (.int r)) (fun z => by rw [z] at hlen; simp at hlen; omega) (by omega) (by omega) hml hp
      refine ⟨t, S', y', p1, p2, ?_, ?_⟩
      · rw [p3]
        have h : ws.flatMap Tr.vl = (ws.take r).flatMap Tr.vl ++ (ws[r].vl ++ (ws[r + 1].vl ++ (ws.drop (r + 2)).flatMap Tr.vl)) := by
          conv => lhs; rw [hsp]
          rw [List.flatMap_append, List.flatMap_cons, List.flatMap_cons]
        rw [h]
        simp [ws', Tr.vl]
      · have q1 : exec (G m) u31_0 ⟨[.ref 0, x, .val (.lst (ws.map Tr.d)), y], S⟩ = some (.nx, ⟨[.ref 0, x, .val (.lst (ws.map Tr.d)), .val (.int r)], S1⟩) :=
          x_setv (v_call (a_shr rfl (a_val (v_bin (v_bi1 (fun _ _ _ z => by cases z) (v_var rfl) bl) (v_con rfl) bSub) a_nil)) ed) (by simp)
        have q2 : exec (G m) u31_1 ⟨[.ref 0, x, .val (.lst (ws.map Tr.d)), .val (.int r)], S1⟩ = some (.nx, ⟨[.ref 0, x, .val (.lst (ws'.map Tr.d)), .val (.int r)], S1⟩) := by
          have s1 := sl_to (xs := ws.map Tr.d) (k := r) (by rw [List.length_map]; omega)
          have s2 := sl_from (xs := ws.map Tr.d) (k := r + 2) (by rw [List.length_map]; omega)
          have i1 := ix_l (xs := ws.map Tr.d) (k := r) (d := ws[r].d) (by simp [hr0])
          have i2 := ix_l (xs := ws.map Tr.d) (k := r + 1) (d := ws[r + 1].d) (by simp [hr1])
          have a1 := bApp (xs := (ws.map Tr.d).take r) (ys := [.tup [ws[r].d, ws[r + 1].d]]) (by simp [sizeLine]; omega)
          have a2 := bApp (xs := (ws.map Tr.d).take r ++ [.tup [ws[r].d, ws[r + 1].d]]) (ys := (ws.map Tr.d).drop (r + 2)) (by simp [sizeLine]; omega)
          have hmap : ws'.map Tr.d = (ws.map Tr.d).take r ++ [.tup [ws[r].d, ws[r + 1].d]] ++ (ws.map Tr.d).drop (r + 2) := by
            simp [ws', Tr.d, List.map_take, List.map_drop]
          rw [hmap]
          exact x_setv (v_bin (v_bin (v_slU (v_var rfl) (v_var rfl) s1) (v_lst1 (v_tup2 (v_sub (fun _ _ _ z => by cases z) (v_var rfl) (v_var rfl) i1) (v_sub (fun _ _ _ z => by cases z) (v_var rfl) (v_bin (v_var rfl) (v_con rfl) bAdd) i2))) a1) (v_slD (v_var rfl) (v_bin (v_var rfl) (v_con rfl) bAdd) s2) a2) (by simp)
        have q3 : execs (G m) s31_0 ⟨[.ref 0, x, .val (.lst (ws.map Tr.d)), y], S⟩ = some (.nx, ⟨[.ref 0, x, .val (.lst (ws'.map Tr.d)), .val (.int r)], S1⟩) := by
          unfold s31_0
          rw [r_nx q1, r_nx q2]; rfl
        rw [whileM, bnd_ok e1]
        simp only [if_true, turnEnd, bnd_ok q3, p4]
    · have e1 : tst (G m) c31_0 ⟨[.ref 0, x, .val (.lst (ws.map Tr.d)), y], S⟩ = some (false, ⟨[.ref 0, x, .val (.lst (ws.map Tr.d)), y], S⟩) := by
        have c : cmpD .Gt (.int ws.length) (.int 1) = some (.bl false) := by simp [cmpD, cmpI]; omega
        exact tst_ok (v_cmp (fun _ _ _ z => by cases z) (fun _ _ _ z => by cases z) (v_bi1 (fun _ _ _ z => by cases z) (v_var rfl) bl) (v_con rfl) c)
      match ws, hl, hq, hw, e1 with
      | [t], _, _, hw, e1 =>
        refine ⟨t, S, y, hS, hw t List.mem_cons_self, by simp, ?_⟩
        rw [whileM, bnd_ok e1]
        rfl
      | _ :: _ :: _, _, hq, _, _ => simp at hq
theorem grouped (hm : 2 ≤ m) {ws : List Tr} (h0 : ws ≠ []) (h2 : ws.length < 100) (hw : ∀ w ∈ ws, w.ml n = true) (hS : Pot S) : ∃ (t : Tr) (S' : List OD), Pot S' ∧ t.ml n = true ∧ t.vl = ws.flatMap Tr.vl ∧ cl m 31 [.ref 0, .val (.lst (ws.map Tr.d))] S = some (.leaf t.d, S') := by
  obtain ⟨t, S', y', p1, p2, p3, p4⟩ := grouped_loop (m := m - 1) (by omega) (x := .val (.lst (ws.map Tr.d))) 1000 (y := .no) h0 (by omega) h2 hw hS
  refine ⟨t, S', p1, p2, p3, ?_⟩
  refine call_ok (d := d31) rfl (by omega) rfl (L' := [.ref 0, .val (.lst (ws.map Tr.d)), .val (.lst [t.d]), y']) ?_
  show execs _ (.cons t31_0 (.cons t31_1 (.cons t31_2 .nil))) ⟨[.ref 0, .val (.lst (ws.map Tr.d)), .no, .no], S⟩ = _
  rw [r_nx (s1 := ⟨[.ref 0, .val (.lst (ws.map Tr.d)), .val (.lst (ws.map Tr.d)), .no], S⟩) (by simp [t31_0, exec, execs, den, dens, denB, denAs, denKs, denIt, denIfs, denEO, denOE, denOEs, denF, bnd, ret, readVar, peek, peekO, peekL, opn_bv, opn_var, opn_con, opn_glo, opn_tup, opn_lst, opn_bin, opn_sub, opn_att, opn_bi1, opn_call, opn_callK, opn_cmp, opn_ss, opn_sl, cmpM, subM, subB, attM, unaM, setSlot, setSlots, setV, setT, setTs, doCall, mutF, tst, andThen, ofO_s, leafD_l, tr_b, env_call, env_fn, env_wf, env_glob, conD, rtM, itD_l, itD_t, convD])]
  rw [r_nx (show exec (G (m - 1)) t31_1 _ = _ from by rw [t31_1, exec]; exact p4)]
  exact r_rt (x_ret (v_sub (fun _ _ _ z => by cases z) (v_var rfl) (v_con rfl) rfl))
/-- numbers as ends -/
def Is' (n : Nat) (ds : List D) : Prop := ∀ d ∈ ds, ∃ k : Nat, k < n ∧ d = .int k
theorem Is'.gd {ds : List D} (h : Is' n ds) {k : Nat} : ∀ d ∈ ds, Dm.gd k d := fun d hd => by
  obtain ⟨k, _, rfl⟩ := h d hd
  exact gd_int
theorem Is'.tr {ds : List D} (h : Is' n ds) : ∃ ws : List Tr, ws.map Tr.d = ds ∧ (∀ w ∈ ws, w.ml n = true) ∧ ws.flatMap Tr.vl = ds := by
  refine ⟨ds.map Tr.lf, by simp [Function.comp_def, Tr.d], fun w hw => ?_, ?_⟩
  · obtain ⟨d, hd, rfl⟩ := List.mem_map.mp hw
    obtain ⟨k, hk, rfl⟩ := h d hd
    exact I_ml hk
  · rw [List.flatMap_map]
    simp [Tr.vl]
theorem rng_ok {Γ : Env} {e : E} {p q : Pos} {s s1 : St} {k : Nat} (h : den Γ e s = some (.int k, s1)) (hk : k < 1000) : denIt Γ (.rng e p q) s = some (vals k, s1) := by
  rw [denIt, bnd_ok h]
  simp only []
  rw [if_pos (by omega)]
  simp [ret, rangeD, vals]
theorem two (hT : Tb n f) (hm : 4 ≤ m) (hS : Pot S) : ∃ (a b : Tr) (S' : List OD), Pot S' ∧ a.ml n = true ∧ b.ml n = true ∧ a.cnt ≤ 6 ∧ b.cnt ≤ 6 ∧ (∀ d, d ∈ a.vl ↔ d ∈ b.vl) ∧ cl m 34 [.ref 0, .val (rowsD n f)] S = some (.leaf (.tup [a.d, b.d]), S') := by
  have h7 := hT.most
  have h1 := hT.pos
  have el : bi1D .len (rowsD n f) = some (.int n) := by unfold rowsD; rw [b1L, rowsL_len]
  -- the values
  obtain ⟨r1, S1, hp1, hr1, ed1⟩ := draw (n := m - 1) (S := S) (by omega) (m := 4) (by omega) (by omega) hS
  obtain ⟨xs, S2, hp2, hx2, ex⟩ : ∃ ys S', Pot S' ∧ All2 (fun _ d => ∃ k : Nat, k < n ∧ d = .int k) (vals (1 + r1)) ys ∧ den (G (m - 1)) c34_0 ⟨[.ref 0, .val (rowsD n f), .no, .no, .no], S⟩ = some (.lst ys, ⟨[.ref 0, .val (rowsD n f), .no, .no, .no], S'⟩) := comp1 (S1 := S1)
    Pot (fun _ d => ∃ k : Nat, k < n ∧ d = .int k) (.inl rfl) (rng_ok (v_bin (v_con rfl) (v_call (a_shr rfl (a_val (v_con rfl) a_nil)) ed1) (by rw [bAdd]; simp)) (by omega)) (by rw [vals_len]; unfold sizeLine; omega) (fun v hv S hS => by
      obtain ⟨r, S', hp, hr, ed⟩ := draw (n := m - 1) (S := S) (by omega) (m := n) (by omega) (by omega) hS
      exact ⟨.int r, S', hp, ⟨r, by omega, rfl⟩, v_call (a_shr rfl (a_val (v_bi1 (fun _ _ _ z => by cases z) (v_var rfl) el) a_nil)) ed⟩) hp1
  have ix : Is' n xs := forall₂_right hx2
  have lx : xs.length = 1 + r1 := by rw [← forall₂_len hx2, vals_len]
  -- some again
  obtain ⟨r2, S3, hp3, hr2, ed2⟩ := draw (n := m - 1) (S := S2) (by omega) (m := 3) (by omega) (by omega) hp2
  obtain ⟨ys, S4, hp4, hy4, ey⟩ : ∃ ys S', Pot S' ∧ All2 (fun _ d => d ∈ xs) (vals r2) ys ∧ den (G (m - 1)) c34_1 ⟨[.ref 0, .val (rowsD n f), .val (.lst xs), .no, .no], S2⟩ = some (.lst ys, ⟨[.ref 0, .val (rowsD n f), .val (.lst xs), .no, .no], S'⟩) := comp1 (S1 := S3)
    Pot (fun _ d => d ∈ xs) (.inl rfl) (rng_ok (v_call (a_shr rfl (a_val (v_con rfl) a_nil)) ed2) (by omega)) (by rw [vals_len]; unfold sizeLine; omega) (fun v hv S hS => by
      obtain ⟨d, S', hp, hd, ed⟩ := pick (n := m - 1) (S := S) (by omega) (xs := xs) (fun z => by rw [z] at lx; simp at lx; omega) (by omega) hS
      exact ⟨d, S', hp, hd, v_call (a_shr rfl (a_shv rfl a_nil)) ed⟩) hp3
  have iy : ∀ d ∈ ys, d ∈ xs := forall₂_right hy4
  have ly : ys.length = r2 := by rw [← forall₂_len hy4, vals_len]
  have iz : Is' n (xs ++ ys) := fun d hd => by
    rcases List.mem_append.mp hd with hd | hd
    · exact ix d hd
    · exact ix d (iy d hd)
  -- in some sequence, grouped
  obtain ⟨as, S5, hp5, pa, ea⟩ := mixed (n := m - 1) (S := S4) (by omega) (xs := xs) (by omega) ix.gd hp4
  have ia : Is' n as := fun d hd => ix d (pa.mem_iff.mp hd)
  obtain ⟨wa, w1, w2, w3⟩ := ia.tr
  have la : as.length = 1 + r1 := by rw [pa.length_eq, lx]
  obtain ⟨a, S6, hp6, ga1, ga2, ga3⟩ := grouped (m := m - 1) (n := n) (S := S5) (by omega) (ws := wa) (fun z => by rw [← w1, z] at la; simp at la; omega) (by have := congrArg List.length w1; rw [List.length_map] at this; omega) w2 hp5
  obtain ⟨bs, S7, hp7, pb, eb⟩ := mixed (n := m - 1) (S := S6) (by omega) (xs := xs ++ ys) (by rw [List.length_append]; omega) iz.gd hp6
  have ib : Is' n bs := fun d hd => iz d (pb.mem_iff.mp hd)
  obtain ⟨wb, w4, w5, w6⟩ := ib.tr
  have lb : bs.length = 1 + r1 + r2 := by rw [pb.length_eq, List.length_append, lx, ly]
  obtain ⟨b, S8, hp8, gb1, gb2, gb3⟩ := grouped (m := m - 1) (n := n) (S := S7) (by omega) (ws := wb) (fun z => by rw [← w4, z] at lb; simp at lb; omega) (by have := congrArg List.length w4; rw [List.length_map] at this; omega) w5 hp7
  rw [w3] at ga2
  rw [w6] at gb2
  rw [w1] at ga3
  rw [w4] at gb3
  refine ⟨a, b, S8, hp8, ga1, gb1, by rw [← Tr.vl_len, ga2, la]; omega, by rw [← Tr.vl_len, gb2, lb]; omega, fun d => ?_, ?_⟩
  · rw [ga2, gb2, pa.mem_iff, pb.mem_iff, List.mem_append]
    exact ⟨.inl, fun h => h.elim id (iy d)⟩
  · refine call_ok (d := d34) rfl (by omega) rfl (L' := [.ref 0, .val (rowsD n f), .val (.lst xs), .val (.lst (xs ++ ys)), .no]) ?_
    show execs _ (.cons t34_0 (.cons t34_1 (.cons t34_2 .nil))) ⟨[.ref 0, .val (rowsD n f), .no, .no, .no], S⟩ = _
    have g1 : exec (G (m - 1)) t34_0 ⟨[.ref 0, .val (rowsD n f), .no, .no, .no], S⟩ = some (.nx, ⟨[.ref 0, .val (rowsD n f), .val (.lst xs), .no, .no], S2⟩) := x_setv ex (by simp)
    have g2 : exec (G (m - 1)) t34_1 ⟨[.ref 0, .val (rowsD n f), .val (.lst xs), .no, .no], S2⟩ = some (.nx, ⟨[.ref 0, .val (rowsD n f), .val (.lst xs), .val (.lst (xs ++ ys)), .no], S4⟩) := x_setv (v_bin (v_var rfl) ey (bApp (by unfold sizeLine; omega))) (by simp)
    rw [r_nx g1, r_nx g2]
    exact r_rt (x_ret (v_tup2 (v_call (a_shr rfl (a_val (v_call (a_shr rfl (a_shv rfl a_nil)) ea) a_nil)) ga3) (v_call (a_shr rfl (a_val (v_call (a_shr rfl (a_shv rfl a_nil)) eb) a_nil)) gb3)))
end K41
end Dm

namespace Dm
open PySem L2
theorem for_inv2 {t : Tg} {body : M Fl} (I J : St → Prop) (hJ : ∀ s, J s → I s) {items : List D} (h : ∀ v ∈ items, ∀ s, I s → ∃ s1 s2, setT t v s = some ((), s1) ∧ body s1 = some (.nx, s2) ∧ J s2) (h0 : items ≠ []) {s : St} (hs : I s) : ∃ s', forM t body items s = some (.nx, s') ∧ J s' := by
  match items, h0 with
  | v :: items, _ =>
    obtain ⟨s1, s2, e1, e2, j2⟩ := h v List.mem_cons_self s hs
    obtain ⟨s', e3, j3⟩ := for_inv (t := t) (body := body) (items := items) J (fun y hy s hs => by
      obtain ⟨s1, s2, q1, q2, q3⟩ := h y (List.mem_cons_of_mem _ hy) s (hJ s hs)
      exact ⟨s1, s2, q1, q2, q3⟩) j2
    refine ⟨s', ?_, j3⟩
    rw [forM]
    simp only [bnd, e1, turnEnd, e2, e3]
theorem den_and {Γ : Env} {e e2 : E} {p : Pos} : den Γ (.bop .And e (.cons e2 .nil) p) = bnd (den Γ e) fun x => bnd (ofO x.tr) fun b => if b then den Γ e2 else ret x := by
  rw [den, denB]
  rfl
namespace K41
variable {n m : Nat} {S : List OD} {f : Nat → Nat → Nat}
/-! ### lots of spots -/
def lotD (l : List Int) : D := .lst (l.map D.int)
def un (a b : List Int) : List Int := ssI (a ++ b)
structure Lot (l : List Int) : Prop where
  ss : ssI l = l
  in' : ∀ i ∈ l, 0 ≤ i ∧ i < 4
theorem sorted_len : ∀ {l : List Int} {lo hi : Int}, l.Pairwise (· < ·) → (∀ i ∈ l, lo ≤ i ∧ i < hi) → (l.length : Int) ≤ max 0 (hi - lo)
  | [], lo, hi, _, _ => by simp; omega
  | x :: l, lo, hi, h1, h2 => by
    rw [List.pairwise_cons] at h1
    have h3 := h2 x List.mem_cons_self
    have := sorted_len (lo := x + 1) (hi := hi) h1.2 fun i hi' => ⟨by have := h1.1 i hi'; omega, (h2 i (List.mem_cons_of_mem _ hi')).2⟩
    rw [List.length_cons]
    omega
theorem Lot.len {l : List Int} (h : Lot l) : l.length ≤ 4 := by
  have := sorted_len (l := l) (lo := 0) (hi := 4) (by rw [← h.ss]; exact ssI_sorted _) h.in'
  omega
theorem un_lot {a b : List Int} (ha : ∀ i ∈ a, 0 ≤ i ∧ i < 4) (hb : ∀ i ∈ b, 0 ≤ i ∧ i < 4) : Lot (un a b) :=
  ⟨ss_ext fun i => by rw [un, ssI_mem], fun i hi => by
    rw [un, ssI_mem, List.mem_append] at hi
    exact hi.elim (ha i) (hb i)⟩
theorem un_mem {a b : List Int} {i : Int} : i ∈ un a b ↔ i ∈ a ∨ i ∈ b := by rw [un, ssI_mem, List.mem_append]
theorem un_eq {a b c d : List Int} (h : ∀ i, (i ∈ a ∨ i ∈ b) ↔ (i ∈ c ∨ i ∈ d)) : un a b = un c d := ss_ext fun i => by rw [List.mem_append, List.mem_append]; exact h i
theorem un_self {a : List Int} (h : Lot a) : un a a = a := by
  rw [← h.ss]
  exact ss_ext fun i => by rw [List.mem_append, ssI_mem, or_self]
theorem un_abs {a c : List Int} : un a (un c a) = un c a := by
  unfold un
  exact ss_ext fun i => by simp only [List.mem_append, ssI_mem]; exact ⟨fun h => h.elim .inr id, .inr⟩
structure Lots (ls : List (List Int)) : Prop where
  lot : ∀ a ∈ ls, Lot a
  cls : ∀ a ∈ ls, ∀ b ∈ ls, un a b ∈ ls
theorem lots_grow {ls ls' : List (List Int)} {fr : List Int} (h : Lots ls) (hf : Lot fr) (hm : ∀ a, a ∈ ls' ↔ a ∈ ls ∨ a = fr ∨ ∃ c ∈ ls, a = un c fr) : Lots ls' := by
  have com : ∀ {a b : List Int}, un a b = un b a := un_eq fun i => Or.comm
  have key : ∀ {a c : List Int}, a ∈ ls → c ∈ ls → un a (un c fr) = un (un a c) fr ∧ un (un a fr) (un c fr) = un (un a c) fr := by
    intro a c _ _
    constructor
    · exact un_eq fun i => by rw [un_mem, un_mem]; exact or_assoc.symm
    · exact un_eq fun i => by
        rw [un_mem, un_mem, un_mem]
        constructor
        · rintro ((h | h) | (h | h))
          · exact .inl (.inl h)
          · exact .inr h
          · exact .inl (.inr h)
          · exact .inr h
        · rintro ((h | h) | h)
          · exact .inl (.inl h)
          · exact .inr (.inl h)
          · exact .inr (.inr h)
  refine ⟨fun a ha => ?_, fun a ha b hb => ?_⟩
  · rcases (hm a).mp ha with h1 | rfl | ⟨c, hc, rfl⟩
    · exact h.lot a h1
    · exact hf
    · exact un_lot (h.lot c hc).in' hf.in'
  · rw [hm]
    rcases (hm a).mp ha with h1 | rfl | ⟨c, hc, rfl⟩ <;> rcases (hm b).mp hb with h2 | rfl | ⟨d, hd, rfl⟩
    · exact .inl (h.cls a h1 b h2)
    · exact .inr (.inr ⟨a, h1, rfl⟩)
    · exact .inr (.inr ⟨_, h.cls a h1 d hd, (key h1 hd).1⟩)
    · exact .inr (.inr ⟨b, h2, com⟩)
    · exact .inr (.inl (un_self hf))
    · exact .inr (.inr ⟨d, hd, un_abs⟩)
    · exact .inr (.inr ⟨_, h.cls b h2 c hc, by rw [com, (key h2 hc).1]⟩)
    · exact .inr (.inr ⟨c, hc, by rw [com, un_abs]⟩)
    · exact .inr (.inr ⟨_, h.cls c hc d hd, (key hc hd).2⟩)
theorem ssD_ok {a : List Int} (h : a.length < 64) : ssD (.lst (a.map D.int)) = some (lotD (ssI a)) := by
  have : ∀ {a : List Int}, allI (a.map D.int) = some a := by
    intro a
    induction a with
    | nil => rfl
    | cons x a ih => rw [List.map_cons, allI, ih]; rfl
  unfold ssD
  simp only [this]
  rw [if_pos h]
  rfl
theorem gd_lot {l : List Int} : gd 1 (lotD l) := gd_lst fun d hd => by
  obtain ⟨i, _, rfl⟩ := List.mem_map.mp hd
  exact gd_int
theorem gd_lots {ls : List (List Int)} : ∀ d ∈ ls.map lotD, gd 1 d := fun d hd => by
  obtain ⟨l, _, rfl⟩ := List.mem_map.mp hd
  exact gd_lot
theorem eqv_lot {a b : List Int} : PyData.eqv (lotD a).py (lotD b).py = (a == b) := by
  unfold lotD
  rw [D.py, D.py, PyData.eqv, eqv_ints]
theorem in_lots {ls : List (List Int)} {a : List Int} : inD (lotD a) (ls.map lotD) = some (decide (a ∈ ls)) := by
  unfold inD
  rw [gd_lot.shaped (by omega), (gd_lst gd_lots).shaped (by omega)]
  simp only [Bool.and_self, if_true]
  congr 1
  rw [Bool.eq_iff_iff, List.any_eq_true, decide_eq_true_eq]
  constructor
  · rintro ⟨d, hd, e⟩
    obtain ⟨l, hl, rfl⟩ := List.mem_map.mp hd
    rw [eqv_lot, beq_iff_eq] at e
    subst e; exact hl
  · intro h
    exact ⟨_, List.mem_map.mpr ⟨a, h, rfl⟩, by rw [eqv_lot, beq_iff_eq]⟩
/-- those that are new -/
def sel (fd : List (List Int)) : List (List Int) → List (List Int) → List (List Int)
  | _, [] => []
  | pre, a :: r => if a ∈ fd ∨ a ∈ pre then sel fd (pre ++ [a]) r else a :: sel fd (pre ++ [a]) r
theorem sel_mem {fd : List (List Int)} : ∀ {xs pre : List (List Int)} {a : List Int}, a ∈ sel fd pre xs → a ∈ xs
  | [], _, _, h => by simp [sel] at h
  | x :: xs, pre, a, h => by
    rw [sel] at h
    split at h
    · exact List.mem_cons_of_mem _ (sel_mem h)
    · rcases List.mem_cons.mp h with rfl | h
      · exact List.mem_cons_self
      · exact List.mem_cons_of_mem _ (sel_mem h)
theorem sel_all {fd : List (List Int)} : ∀ {xs pre : List (List Int)} {a : List Int}, a ∈ xs → a ∈ fd ∨ a ∈ pre ∨ a ∈ sel fd pre xs
  | x :: xs, pre, a, h => by
    rw [sel]
    by_cases hx : x ∈ fd ∨ x ∈ pre
    · rw [if_pos hx]
      rcases List.mem_cons.mp h with rfl | h
      · exact hx.elim .inl fun z => .inr (.inl z)
      · rcases sel_all (fd := fd) (pre := pre ++ [x]) h with h | h | h
        · exact .inl h
        · rcases List.mem_append.mp h with h | h
          · exact .inr (.inl h)
          · rw [List.mem_singleton] at h; subst h
            exact hx.elim .inl fun z => .inr (.inl z)
        · exact .inr (.inr h)
    · rw [if_neg hx]
      rcases List.mem_cons.mp h with rfl | h
      · exact .inr (.inr List.mem_cons_self)
      · rcases sel_all (fd := fd) (pre := pre ++ [x]) h with h | h | h
        · exact .inl h
        · rcases List.mem_append.mp h with h | h
          · exact .inr (.inl h)
          · rw [List.mem_singleton] at h; subst h
            exact .inr (.inr List.mem_cons_self)
        · exact .inr (.inr (List.mem_cons_of_mem _ h))
theorem sel_len {fd : List (List Int)} : ∀ {xs pre : List (List Int)}, (sel fd pre xs).length ≤ xs.length
  | [], _ => by simp [sel]
  | x :: xs, pre => by
    rw [sel]
    have := sel_len (fd := fd) (xs := xs) (pre := pre ++ [x])
    split
    · rw [List.length_cons]; omega
    · rw [List.length_cons, List.length_cons]; omega
def unlot : D → List Int
  | .lst ds => intsD ds
  | _ => []
theorem unlot_lot {l : List Int} : unlot (lotD l) = l := by
  show intsD (l.map D.int) = l
  induction l with
  | nil => rfl
  | cons x l ih =>
    rw [List.map_cons]
    show x :: intsD (l.map D.int) = _
    rw [ih]
theorem perm_lots {ls : List (List Int)} {ys : List D} (h : ys.Perm (ls.map lotD)) : ∃ ls' : List (List Int), ys = ls'.map lotD ∧ ls'.Perm ls := by
  refine ⟨ys.map unlot, ?_, ?_⟩
  · rw [List.map_map]
    conv => lhs; rw [← List.map_id ys]
    refine List.map_congr_left fun y hy => ?_
    obtain ⟨l, _, rfl⟩ := List.mem_map.mp (h.mem_iff.mp hy)
    show lotD l = lotD (unlot (lotD l))
    rw [unlot_lot]
  · have := h.map unlot
    rw [List.map_map] at this
    have e : ls.map (unlot ∘ lotD) = ls := by
      conv => rhs; rw [← List.map_id ls]
      exact List.map_congr_left fun l _ => unlot_lot
    rw [e] at this
    exact this
/-! ### a turn -/
def okY (y : Slot) : Prop := y = .no ∨ ∃ d, y = .val d
theorem fresh_ok (hm : 1 ≤ m) {l : D} {y2 y3 y4 y5 y6 y7 : Slot} (h3 : okY y3) (hS : Pot S) : ∃ (fr : List Int) (S' : List OD), Pot S' ∧ Lot fr ∧ exec (G m) u25_0 ⟨[.ref 0, .val l, y2, y3, y4, y5, y6, y7], S⟩ = some (.nx, ⟨[.ref 0, .val l, y2, y3, .val (lotD fr), y5, y6, y7], S'⟩) := by
  obtain ⟨r, S1, hp1, hr1, ed1⟩ := draw (n := m) (S := S) hm (m := 4) (by omega) (by omega) hS
  obtain ⟨xs, S2, hp2, hx2, ex⟩ : ∃ ys S', Pot S' ∧ All2 (fun _ d => ∃ k : Int, 0 ≤ k ∧ k < 4 ∧ d = .int k) (vals r) ys ∧ den (G m) c25_0 ⟨[.ref 0, .val l, y2, y3, y4, y5, y6, y7], S⟩ = some (.lst ys, ⟨[.ref 0, .val l, y2, y3, y4, y5, y6, y7], S'⟩) :=
    comp1 (S1 := S1) Pot _ (by rcases h3 with rfl | ⟨d, rfl⟩ <;> simp) (rng_ok (v_call (a_shr rfl (a_val (v_con rfl) a_nil)) ed1) (by omega)) (by rw [vals_len]; unfold sizeLine; omega) (fun v hv S hS => by
      obtain ⟨r, S', hp, hr, ed⟩ := draw (n := m) (S := S) hm (m := 4) (by omega) (by omega) hS
      exact ⟨.int r, S', hp, ⟨r, by omega, by omega, rfl⟩, v_call (a_shr rfl (a_val (v_con rfl) a_nil)) ed⟩) hp1
  have hx : ∀ d ∈ xs, ∃ k : Int, 0 ≤ k ∧ k < 4 ∧ d = .int k := forall₂_right hx2
  have lx : xs.length = r := by rw [← forall₂_len hx2, vals_len]
  have hxm : xs = (intsD xs).map D.int := by
    clear ex hx2 lx
    induction xs with
    | nil => rfl
    | cons d xs ih =>
      obtain ⟨k, _, _, rfl⟩ := hx d List.mem_cons_self
      show _ = D.int k :: (intsD xs).map D.int
      rw [← ih fun d hd => hx d (List.mem_cons_of_mem _ hd)]
  have hl : (intsD xs).length = r := by
    have := congrArg List.length hxm
    rw [List.length_map] at this
    omega
  have es : ssD (.lst xs) = some (lotD (ssI (intsD xs))) := by
    rw [hxm, ssD_ok (by omega), ← hxm]
  refine ⟨ssI (intsD xs), S2, hp2, ⟨ss_ext fun i => ssI_mem, fun i hi => ?_⟩, x_setv (v_ss ex es) (by simp)⟩
  rw [ssI_mem, intsD_mem] at hi
  obtain ⟨k, h1, h2, e⟩ := hx _ hi
  cases e
  exact ⟨h1, h2⟩
theorem more_ok {ls : List (List Int)} {fr : List Int} {y2 y3 y5 y6 y7 : Slot} (h6 : okY y6) (hL : Lots ls) (hl : ls.length ≤ 7) (hf : Lot fr) : exec (G m) u25_1 ⟨[.ref 0, .val (.lst (ls.map lotD)), y2, y3, .val (lotD fr), y5, y6, y7], S⟩ = some (.nx, ⟨[.ref 0, .val (.lst (ls.map lotD)), y2, .val (.lst ((fr :: ls.map fun a => un a fr).map lotD)), .val (lotD fr), y5, y6, y7], S⟩) := by
  have e : den (G m) c25_1 ⟨[.ref 0, .val (.lst (ls.map lotD)), y2, y3, .val (lotD fr), y5, y6, y7], S⟩ = some (.lst ((ls.map lotD).map fun d => lotD (un (unlot d) fr)), ⟨[.ref 0, .val (.lst (ls.map lotD)), y2, y3, .val (lotD fr), y5, y6, y7], S⟩) := by
    refine comp1p _ (by rcases h6 with rfl | ⟨d, rfl⟩ <;> simp) (it_l rfl) (by rw [List.length_map]; unfold sizeLine; omega) fun v hv => ?_
    obtain ⟨a, ha, rfl⟩ := List.mem_map.mp hv
    have la := (hL.lot a ha).len
    have lf := hf.len
    have b1 : binD .Add (lotD a) (lotD fr) = some (.lst ((a ++ fr).map D.int)) := by
      rw [List.map_append]
      exact bApp (by rw [List.length_map, List.length_map]; unfold sizeLine; omega)
    have b2 := ssD_ok (a := a ++ fr) (by rw [List.length_append]; omega)
    rw [unlot_lot]
    exact v_ss (v_bin (v_var rfl) (v_var rfl) b1) b2
  have e2 : (ls.map lotD).map (fun d => lotD (un (unlot d) fr)) = (ls.map fun a => un a fr).map lotD := by
    rw [List.map_map, List.map_map]
    exact List.map_congr_left fun a _ => by simp [unlot_lot]
  rw [e2] at e
  exact x_setv (v_bin (v_lst1 (v_var rfl)) e (bApp (xs := [lotD fr]) (by rw [List.length_map, List.length_map]; simp [sizeLine]; omega))) (by simp)
def gsel (ls more : List (List Int)) : D → List D
  | .tup [.int k, d] => if unlot d ∈ ls ∨ unlot d ∈ more.take k.toNat then [] else [d]
  | _ => []
theorem flat_sel {ls more : List (List Int)} : ∀ {xs pre : List (List Int)}, more = pre ++ xs → ((enumD pre.length (xs.map lotD)).map (gsel ls more)).flatten = (sel ls pre xs).map lotD
  | [], pre, _ => by simp [enumD, sel]
  | x :: xs, pre, h => by
    have ih := flat_sel (ls := ls) (more := more) (xs := xs) (pre := pre ++ [x]) (by rw [h]; simp)
    rw [List.length_append, List.length_singleton] at ih
    have ht : more.take pre.length = pre := by rw [h]; simp
    have hg : gsel ls more (.tup [.int pre.length, lotD x]) = if x ∈ ls ∨ x ∈ pre then [] else [lotD x] := by
      simp only [gsel, unlot_lot, Int.toNat_natCast, ht]
    rw [List.map_cons, enumD, List.map_cons, List.flatten_cons, ih, hg, sel]
    split <;> simp
theorem enum_at : ∀ {ds : List D} {k : Nat} {v : D}, v ∈ enumD k ds → ∃ (i : Nat) (d : D), v = .tup [.int (k + i : Nat), d] ∧ ds[i]? = some d
  | [], _, _, h => by simp [enumD] at h
  | d :: ds, k, v, h => by
    rw [enumD, List.mem_cons] at h
    rcases h with rfl | h
    · exact ⟨0, d, rfl, rfl⟩
    · obtain ⟨i, d', e, hd⟩ := enum_at h
      exact ⟨i + 1, d', by rw [e]; congr 4; omega, by simpa using hd⟩
theorem some_ok {ls more : List (List Int)} {fr : D} {y2 y5 y6 y7 : Slot} (h6 : okY y6) (h7 : okY y7) (hl : ls.length ≤ 7) (hm : more.length ≤ 8) : exec (G m) u25_2 ⟨[.ref 0, .val (.lst (ls.map lotD)), y2, .val (.lst (more.map lotD)), .val fr, y5, y6, y7], S⟩ = some (.nx, ⟨[.ref 0, .val (.lst (ls.map lotD)), y2, .val (.lst (more.map lotD)), .val fr, .val (.lst ((ls ++ sel ls [] more).map lotD)), y6, y7], S⟩) := by
  have e : den (G m) c25_2 ⟨[.ref 0, .val (.lst (ls.map lotD)), y2, .val (.lst (more.map lotD)), .val fr, y5, y6, y7], S⟩ = some (.lst ((sel ls [] more).map lotD), ⟨[.ref 0, .val (.lst (ls.map lotD)), y2, .val (.lst (more.map lotD)), .val fr, y5, y6, y7], S⟩) := by
    unfold c25_2
    rw [den]
    have hit : ∀ {x : Str} {p1 p2 p3 : Pos}, denIt (G m) (.enu (.var 3 x p1) p2 p3) ⟨[.ref 0, .val (.lst (ls.map lotD)), y2, .val (.lst (more.map lotD)), .val fr, y5, y6, y7], S⟩ = some (enumD 0 (more.map lotD), ⟨[.ref 0, .val (.lst (ls.map lotD)), y2, .val (.lst (more.map lotD)), .val fr, y5, y6, y7], S⟩) := by
      intro x p1 p2 p3
      rw [denIt, bnd_ok (v_var rfl)]
      rfl
    rw [bnd_ok hit]
    have hw : wipeL [.ref 0, .val (.lst (ls.map lotD)), y2, .val (.lst (more.map lotD)), .val fr, y5, y6, y7] [7, 6] = [.ref 0, .val (.lst (ls.map lotD)), y2, .val (.lst (more.map lotD)), .val fr, y5, .no, .no] := rfl
    have hb : backL [.ref 0, .val (.lst (ls.map lotD)), y2, .val (.lst (more.map lotD)), .val fr, y5, y6, y7] [.ref 0, .val (.lst (ls.map lotD)), y2, .val (.lst (more.map lotD)), .val fr, y5, y6, y7] [7, 6] = [.ref 0, .val (.lst (ls.map lotD)), y2, .val (.lst (more.map lotD)), .val fr, y5, y6, y7] := by
      rcases h6 with rfl | ⟨d, rfl⟩ <;> rcases h7 with rfl | ⟨d, rfl⟩ <;> rfl
    have hf := flat_sel (ls := ls) (more := more) (xs := more) (pre := []) rfl
    rw [List.length_nil] at hf
    rw [← hf]
    obtain ⟨L', e1, e2⟩ := run_pure (S := S) (ids := [7, 6]) (items := enumD 0 (more.map lotD)) (gsel ls more) hw (t := .tp (.cons (.nm 7 "_law_at" (P 124 47 54)) (.cons (.nm 6 "_law_one" (P 124 56 64)) .nil)) 0 (P 124 47 64))
      (body := bnd (denIfs (G m) (.cons (.bop .And (.cmp (.var 6 "_law_one" (P 124 92 100)) .NotIn (.var 1 "_law_found" (P 124 108 118)) (P 124 92 118)) (.cons (.cmp (.var 6 "_law_one" (P 124 123 131)) .NotIn (.sl (.var 3 "_law_more" (P 124 139 148)) .no (.yes (.var 7 "_law_at" (P 124 150 157))) (P 124 149 157) (P 124 139 158)) (P 124 123 158)) .nil) (P 124 92 158)) .nil)) fun c => if c then bnd (den (G m) (.var 6 "_law_one" (P 124 34 42))) fun d => ret [d] else ret []) fun v hv => by
      obtain ⟨k, d, rfl, hd⟩ := enum_at hv
      rw [Nat.zero_add]
      have hk : k < more.length := by
        have := (List.getElem?_eq_some_iff.mp hd).1
        rwa [List.length_map] at this
      obtain ⟨a, ha, rfl⟩ : ∃ a, more[k]? = some a ∧ d = lotD a := by
        rw [List.getElem?_map, Option.map_eq_some_iff] at hd
        obtain ⟨a, h1, h2⟩ := hd
        exact ⟨a, h1, h2.symm⟩
      refine ⟨[.ref 0, .val (.lst (ls.map lotD)), y2, .val (.lst (more.map lotD)), .val fr, y5, .val (lotD a), .val (.int k)], ?_, rfl⟩
      have hs : setT (.tp (.cons (.nm 7 "_law_at" (P 124 47 54)) (.cons (.nm 6 "_law_one" (P 124 56 64)) .nil)) 0 (P 124 47 64)) (.tup [.int k, lotD a]) ⟨[.ref 0, .val (.lst (ls.map lotD)), y2, .val (.lst (more.map lotD)), .val fr, y5, .no, .no], S⟩ = some ((), ⟨[.ref 0, .val (.lst (ls.map lotD)), y2, .val (.lst (more.map lotD)), .val fr, y5, .val (lotD a), .val (.int k)], S⟩) := rfl
      rw [bnd_ok hs]
      have c1 : cmpD .NotIn (lotD a) (.lst (ls.map lotD)) = some (.bl !decide (a ∈ ls)) := by
        simp only [cmpD, in_lots, Option.map_some]
      have c2 : cmpD .NotIn (lotD a) (.lst ((more.take k).map lotD)) = some (.bl !decide (a ∈ more.take k)) := by
        simp only [cmpD, in_lots, Option.map_some]
      have s1 := sl_to (xs := more.map lotD) (k := k) (by rw [List.length_map]; omega)
      rw [← List.map_take] at s1
      have hgs : gsel ls more (.tup [.int k, lotD a]) = if a ∈ ls ∨ a ∈ more.take k then [] else [lotD a] := by
        simp only [gsel, unlot_lot, Int.toNat_natCast]
      rw [hgs]
      have q1 := v_cmp (Γ := G m) (a := .var 6 "_law_one" (P 124 92 100)) (b := .var 1 "_law_found" (P 124 108 118)) (p := P 124 92 118) (s := ⟨[.ref 0, .val (.lst (ls.map lotD)), y2, .val (.lst (more.map lotD)), .val fr, y5, .val (lotD a), .val (.int k)], S⟩) (fun _ _ _ z => by cases z) (fun _ _ _ z => by cases z) (v_var rfl) (v_var rfl) c1
      have q2 := v_cmp (Γ := G m) (a := .var 6 "_law_one" (P 124 123 131)) (b := .sl (.var 3 "_law_more" (P 124 139 148)) .no (.yes (.var 7 "_law_at" (P 124 150 157))) (P 124 149 157) (P 124 139 158)) (p := P 124 123 158) (s := ⟨[.ref 0, .val (.lst (ls.map lotD)), y2, .val (.lst (more.map lotD)), .val fr, y5, .val (lotD a), .val (.int k)], S⟩) (fun _ _ _ z => by cases z) (fun _ _ _ z => by cases z) (v_var rfl) (v_slU (v_var rfl) (v_var rfl) s1) c2
      have q3 := v_var (Γ := G m) (i := 6) (x := "_law_one") (p := P 124 34 42) (L := [.ref 0, .val (.lst (ls.map lotD)), y2, .val (.lst (more.map lotD)), .val fr, y5, .val (lotD a), .val (.int k)]) (S := S) (d := lotD a) rfl
      by_cases h1 : a ∈ ls
      · rw [if_pos (.inl h1)]
        rw [decide_eq_true h1] at q1
        simp only [denIfs, den_and, bnd, q1, tr_b, ofO_s, ret, Bool.not_true, if_false, Bool.false_eq_true]
      · rw [decide_eq_false h1] at q1
        by_cases h2 : a ∈ more.take k
        · rw [if_pos (.inr h2)]
          rw [decide_eq_true h2] at q2
          simp only [denIfs, den_and, bnd, q1, q2, tr_b, ofO_s, ret, Bool.not_true, Bool.not_false, if_true, if_false, Bool.false_eq_true]
        · rw [if_neg (fun z => z.elim h1 h2)]
          rw [decide_eq_false h2] at q2
          simp only [denIfs, den_and, bnd, q1, q2, q3, tr_b, ofO_s, ret, Bool.not_true, Bool.not_false, if_true, if_false, Bool.false_eq_true]
    rw [← hw] at e2
    exact inScope_sp (ids := [7, 6]) e1 e2 hb (by
      rw [hf, List.length_map]
      have := sel_len (fd := ls) (xs := more) (pre := [])
      unfold sizeLine
      omega)
  have hsl := sel_len (fd := ls) (xs := more) (pre := [])
  rw [List.map_append]
  exact x_setv (v_bin (v_var rfl) e (bApp (by rw [List.length_map, List.length_map]; unfold sizeLine; omega))) (by simp)
end K41
end Dm

namespace Dm
open PySem L2
theorem v_ife_t {Γ : Env} {c a b : E} {p : Pos} {s s1 : St} {r : Option (D × St)} (h : den Γ c s = some (.bl true, s1)) (ha : den Γ a s1 = r) : den Γ (.ife c a b p) s = r := by
  rw [den, bnd_ok h]
  exact ha
theorem v_ife_f {Γ : Env} {c a b : E} {p : Pos} {s s1 : St} {r : Option (D × St)} (h : den Γ c s = some (.bl false, s1)) (ha : den Γ b s1 = r) : den Γ (.ife c a b p) s = r := by
  rw [den, bnd_ok h]
  exact ha
namespace K41
variable {n m : Nat} {S : List OD} {f : Nat → Nat → Nat}
def InvL (s : St) : Prop := ∃ (ls : List (List Int)) (y2 y3 y4 y5 y6 y7 : Slot) (S : List OD), s = ⟨[.ref 0, .val (.lst (ls.map lotD)), y2, y3, y4, y5, y6, y7], S⟩ ∧ Pot S ∧ Lots ls ∧ ls.length ≤ 7 ∧ okY y3 ∧ okY y6 ∧ okY y7
def InvJ (s : St) : Prop := ∃ (ls : List (List Int)) (y2 y3 y4 y5 y6 y7 : Slot) (S : List OD), s = ⟨[.ref 0, .val (.lst (ls.map lotD)), y2, y3, y4, y5, y6, y7], S⟩ ∧ Pot S ∧ Lots ls ∧ ls.length ≤ 7 ∧ okY y3 ∧ okY y6 ∧ okY y7 ∧ ls ≠ []
theorem turn_ok (hm : 1 ≤ m) {v : D} {s : St} {x : Str} {p : Pos} (h : InvL s) : ∃ s1 s2, setT (.nm 2 x p) v s = some ((), s1) ∧ execs (G m) s25_0 s1 = some (.nx, s2) ∧ InvJ s2 := by
  obtain ⟨ls, y2, y3, y4, y5, y6, y7, S, rfl, hS, hL, hl, h3, h6, h7⟩ := h
  obtain ⟨fr, S1, hS1, hf, e1⟩ := fresh_ok (l := .lst (ls.map lotD)) (y2 := .val v) (y4 := y4) (y5 := y5) (y6 := y6) (y7 := y7) hm h3 hS
  have e2 := more_ok (m := m) (S := S1) (ls := ls) (fr := fr) (y2 := .val v) (y3 := y3) (y5 := y5) (y6 := y6) (y7 := y7) h6 hL hl hf
  have e3 := some_ok (m := m) (S := S1) (ls := ls) (more := fr :: ls.map fun a => un a fr) (fr := lotD fr) (y2 := .val v) (y5 := y5) (y6 := y6) (y7 := y7) h6 h7 hl (by rw [List.length_cons, List.length_map]; omega)
  let ls' := ls ++ sel ls [] (fr :: ls.map fun a => un a fr)
  have hmem : ∀ a, a ∈ ls' ↔ a ∈ ls ∨ a = fr ∨ ∃ c ∈ ls, a = un c fr := fun a => by
    simp only [ls', List.mem_append]
    constructor
    · rintro (h | h)
      · exact .inl h
      · rcases List.mem_cons.mp (sel_mem h) with h | h
        · exact .inr (.inl h)
        · obtain ⟨c, hc, rfl⟩ := List.mem_map.mp h
          exact .inr (.inr ⟨c, hc, rfl⟩)
    · rintro (h | h)
      · exact .inl h
      · have hin : a ∈ fr :: ls.map fun a => un a fr := by
          rcases h with rfl | ⟨c, hc, rfl⟩
          · exact List.mem_cons_self
          · exact List.mem_cons_of_mem _ (List.mem_map.mpr ⟨c, hc, rfl⟩)
        rcases sel_all (fd := ls) (pre := []) hin with h | h | h
        · exact .inl h
        · cases h
        · exact .inr h
  have hL' : Lots ls' := lots_grow hL hf hmem
  have hne : ls' ≠ [] := fun z => by
    have : fr ∈ ls' := (hmem fr).mpr (.inr (.inl rfl))
    rw [z] at this; cases this
  have bl : bi1D .len (.lst (ls'.map lotD)) = some (.int ls'.length) := by rw [b1L, List.length_map]
  have main : ∃ ls2 : List (List Int), Lots ls2 ∧ ls2.length ≤ 7 ∧ ls2 ≠ [] ∧ exec (G m) u25_3 ⟨[.ref 0, .val (.lst (ls.map lotD)), .val v, .val (.lst ((fr :: ls.map fun a => un a fr).map lotD)), .val (lotD fr), .val (.lst (ls'.map lotD)), y6, y7], S1⟩ = some (.nx, ⟨[.ref 0, .val (.lst (ls2.map lotD)), .val v, .val (.lst ((fr :: ls.map fun a => un a fr).map lotD)), .val (lotD fr), .val (.lst (ls'.map lotD)), y6, y7], S1⟩) := by
    by_cases hq : ls'.length < 8
    · have c : cmpD .Lt (.int ls'.length) (.int 8) = some (.bl true) := by simp [cmpD, cmpI]; omega
      exact ⟨ls', hL', by omega, hne, x_setv (v_ife_t (v_cmp (fun _ _ _ z => by cases z) (fun _ _ _ z => by cases z) (v_bi1 (fun _ _ _ z => by cases z) (v_var rfl) bl) (v_con rfl) c) (v_var rfl)) (by simp)⟩
    · have c : cmpD .Lt (.int ls'.length) (.int 8) = some (.bl false) := by simp [cmpD, cmpI]; omega
      refine ⟨ls, hL, hl, fun z => ?_, x_setv (v_ife_f (v_cmp (fun _ _ _ z => by cases z) (fun _ _ _ z => by cases z) (v_bi1 (fun _ _ _ z => by cases z) (v_var rfl) bl) (v_con rfl) c) (v_var rfl)) (by simp)⟩
      have h := sel_len (fd := ls) (xs := fr :: ls.map fun a => un a fr) (pre := [])
      have hlen : ls'.length = ls.length + (sel ls [] (fr :: ls.map fun a => un a fr)).length := List.length_append
      have z' : ls.length = 0 := by rw [z]; rfl
      rw [List.length_cons, List.length_map, z'] at h
      omega
  obtain ⟨ls2, k1, k2, k3, e4⟩ := main
  refine ⟨⟨[.ref 0, .val (.lst (ls.map lotD)), .val v, y3, y4, y5, y6, y7], S⟩, ⟨[.ref 0, .val (.lst (ls2.map lotD)), .val v, .val (.lst ((fr :: ls.map fun a => un a fr).map lotD)), .val (lotD fr), .val (.lst (ls'.map lotD)), y6, y7], S1⟩, rfl, ?_, ⟨ls2, _, _, _, _, _, _, S1, rfl, hS1, k1, k2, .inr ⟨_, rfl⟩, h6, h7, k3⟩⟩
  unfold s25_0
  rw [r_nx e1, r_nx e2, r_nx e3, r_nx e4]
  rfl
theorem lots (hm : 3 ≤ m) (hS : Pot S) : ∃ (ls : List (List Int)) (S' : List OD), Pot S' ∧ Lots ls ∧ ls.length ≤ 7 ∧ ls ≠ [] ∧ cl m 25 [.ref 0] S = some (.leaf (.lst (ls.map lotD)), S') := by
  obtain ⟨r, S1, hp1, hr1, ed1⟩ := draw (n := m - 1) (S := S) (by omega) (m := 5) (by omega) (by omega) hS
  obtain ⟨s', e1, ls, y2, y3, y4, y5, y6, y7, S2, rfl, hS2, hL, hl, h3, h6, h7, hne⟩ := for_inv2 (t := .nm 2 "_law_turn" (P 121 8 17)) (body := execs (G (m - 1)) s25_0) (items := vals (1 + r)) InvL InvJ (fun s ⟨ls, y2, y3, y4, y5, y6, y7, S, h0, h1, h2, h3, h4, h5, h6, _⟩ => ⟨ls, y2, y3, y4, y5, y6, y7, S, h0, h1, h2, h3, h4, h5, h6⟩) (fun v hv s hs => turn_ok (by omega) hs) (fun z => by have := congrArg List.length z; rw [vals_len] at this; simp at this)
    (s := ⟨[.ref 0, .val (.lst []), .no, .no, .no, .no, .no, .no], S1⟩) ⟨[], .no, .no, .no, .no, .no, .no, S1, rfl, hp1, ⟨(fun a h => by cases h), (fun a h => by cases h)⟩, by simp, .inl rfl, .inl rfl, .inl rfl⟩
  obtain ⟨ys, S3, hS3, pp, em⟩ := mixed (n := m - 1) (S := S2) (by omega) (xs := ls.map lotD) (by rw [List.length_map]; omega) (fun d hd => (gd_lots d hd).mono (by omega)) hS2
  obtain ⟨ls', rfl, pl⟩ := perm_lots pp
  refine ⟨ls', S3, hS3, ⟨fun a ha => hL.lot a (pl.mem_iff.mp ha), fun a ha b hb => pl.mem_iff.mpr (hL.cls a (pl.mem_iff.mp ha) b (pl.mem_iff.mp hb))⟩, by rw [pl.length_eq]; exact hl, fun z => hne (by rw [z] at pl; exact pl.symm.eq_nil), ?_⟩
  refine call_ok (d := d25) rfl (by omega) rfl (L' := [.ref 0, .val (.lst (ls.map lotD)), y2, y3, y4, y5, y6, y7]) ?_
  show execs _ (.cons t25_0 (.cons t25_1 (.cons t25_2 .nil))) ⟨[.ref 0, .no, .no, .no, .no, .no, .no, .no], S⟩ = _
  rw [r_nx (s1 := ⟨[.ref 0, .val (.lst []), .no, .no, .no, .no, .no, .no], S⟩) (by simp [t25_0, exec, execs, den, dens, denB, denAs, denKs, denIt, denIfs, denEO, denOE, denOEs, denF, bnd, ret, readVar, peek, peekO, peekL, opn_bv, opn_var, opn_con, opn_glo, opn_tup, opn_lst, opn_bin, opn_sub, opn_att, opn_bi1, opn_call, opn_callK, opn_cmp, opn_ss, opn_sl, cmpM, subM, subB, attM, unaM, setSlot, setSlots, setV, setT, setTs, doCall, mutF, tst, andThen, ofO_s, leafD_l, tr_b, env_call, env_fn, env_wf, env_glob, conD, rtM, itD_l, itD_t])]
  have g1 : exec (G (m - 1)) t25_1 ⟨[.ref 0, .val (.lst []), .no, .no, .no, .no, .no, .no], S⟩ = some (.nx, ⟨[.ref 0, .val (.lst (ls.map lotD)), y2, y3, y4, y5, y6, y7], S2⟩) := by
    rw [t25_1, exec, bnd_ok (rng_ok (k := 1 + r) (v_bin (v_con rfl) (v_call (a_shr rfl (a_val (v_con rfl) a_nil)) ed1) (by rw [bAdd]; simp)) (by omega))]
    exact e1
  rw [r_nx g1]
  exact r_rt (x_ret (v_call (a_shr rfl (a_shv rfl a_nil)) em))
/-! ### a table that melts -/
theorem first_ok {c : List Int} : ∀ {ls : List (List Int)} {k : Nat}, c ∈ ls → firstEq (lotD c) k (ls.map lotD) = some (k + ls.idxOf c)
  | [], _, h => by cases h
  | a :: ls, k, h => by
    rw [List.map_cons, firstEq, eqv_lot, List.idxOf_cons]
    by_cases e : a = c
    · subst e; simp
    · have : (a == c) = false := by simpa using e
      rw [this]
      rcases List.mem_cons.mp h with h | h
      · exact absurd h.symm e
      · simp only [Bool.false_eq_true, if_false, cond_false]
        rw [first_ok h]
        congr 1
        omega
theorem idx_ok {ls : List (List Int)} {c : List Int} (h : c ∈ ls) : idxD (.lst (ls.map lotD)) (lotD c) = some (.int (ls.idxOf c : Nat)) := by
  unfold idxD
  simp only []
  rw [gd_lot.shaped (by omega), (gd_lst gd_lots).shaped (by omega), first_ok h]
  simp
theorem map_range {α β : Type} {ls : List α} {d : α} {g : α → β} : ls.map g = (List.range ls.length).map fun x => g (ls.getD x d) := by
  apply List.ext_getElem
  · simp
  · intro i h1 h2
    simp at h1
    simp [h1]
theorem melting (hm : 4 ≤ m) (hS : Pot S) : ∃ (n : Nat) (f : Nat → Nat → Nat) (S' : List OD), Tb n f ∧ Pot S' ∧ cl m 26 [.ref 0] S = some (.ll ((List.range n).map fun x => rowL n (f x)), S') := by
  obtain ⟨ls, S1, hS1, hL, hl, hne, e1⟩ := lots (m := m - 1) (by omega) hS
  let f : Nat → Nat → Nat := fun x y => ls.idxOf (un (ls.getD x []) (ls.getD y []))
  have hin : ∀ x, x < ls.length → ls.getD x [] ∈ ls := fun x hx => by simp [hx]
  refine ⟨ls.length, f, S1, ⟨List.length_pos_iff.mpr hne, hl, fun x hx y hy => List.idxOf_lt_length_of_mem (hL.cls _ (hin x hx) _ (hin y hy))⟩, hS1, ?_⟩
  obtain ⟨ys, S2, rfl, hy, e2⟩ : ∃ ys S', S' = S1 ∧ All2 (fun v r => r = (ls.map lotD).map fun w => D.int (ls.idxOf (un (unlot v) (unlot w)) : Nat)) (ls.map lotD) ys ∧ denR (G (m - 1)) c26_1 ⟨[.ref 0, .val (.lst (ls.map lotD)), .no, .no], S1⟩ = some (ys, ⟨[.ref 0, .val (.lst (ls.map lotD)), .no, .no], S'⟩) :=
    comp1R (fun S' => S' = S1) _ (.inl rfl) (it_l rfl) (by rw [List.length_map]; unfold sizeLine; omega) (fun v hv S2 hS2 => by
      subst hS2
      obtain ⟨a, ha, rfl⟩ := List.mem_map.mp hv
      obtain ⟨zs, S3, rfl, hz, e3⟩ : ∃ ys S', S' = S2 ∧ All2 (fun w d => d = D.int (ls.idxOf (un a (unlot w)) : Nat)) (ls.map lotD) ys ∧ denF (G (m - 1)) c26_0 ⟨[.ref 0, .val (.lst (ls.map lotD)), .val (lotD a), .no], S2⟩ = some (ys, ⟨[.ref 0, .val (.lst (ls.map lotD)), .val (lotD a), .no], S'⟩) :=
        comp1F (fun S' => S' = S2) _ (.inl rfl) (it_l rfl) (by rw [List.length_map]; unfold sizeLine; omega) (fun w hw S3 hS3 => by
          subst hS3
          obtain ⟨b, hb, rfl⟩ := List.mem_map.mp hw
          have la := (hL.lot a ha).len
          have lb := (hL.lot b hb).len
          have b1 : binD .Add (lotD a) (lotD b) = some (.lst ((a ++ b).map D.int)) := by
            rw [List.map_append]
            exact bApp (by rw [List.length_map, List.length_map]; unfold sizeLine; omega)
          have b2 := ssD_ok (a := a ++ b) (by rw [List.length_append]; omega)
          refine ⟨_, _, rfl, rfl, ?_⟩
          rw [unlot_lot]
          exact v_idx (v_var rfl) (v_ss (v_bin (v_var rfl) (v_var rfl) b1) b2) (idx_ok (hL.cls a ha b hb))) rfl
      refine ⟨zs, _, rfl, ?_, e3⟩
      rw [forall₂_map hz, unlot_lot]) rfl
  have ey : ys = (List.range ls.length).map fun x => rowL ls.length (f x) := by
    rw [forall₂_map hy, List.map_map, map_range (d := [])]
    refine List.map_congr_left fun x _ => ?_
    simp only [Function.comp, List.map_map, unlot_lot]
    rw [map_range (d := [])]
    simp [rowL, f, unlot_lot]
  rw [← ey]
  refine call_ok (d := d26) rfl (by omega) rfl (L' := [.ref 0, .val (.lst (ls.map lotD)), .no, .no]) ?_
  show execs _ (.cons t26_0 (.cons t26_1 .nil)) ⟨[.ref 0, .no, .no, .no], S⟩ = _
  rw [r_nx (s1 := ⟨[.ref 0, .val (.lst (ls.map lotD)), .no, .no], S2⟩) (x_setv (v_call (a_shr rfl a_nil) e1) (by simp))]
  refine r_rt ?_
  rw [t26_1, exec, denOE, bnd_ok (bnd_ok e2)]
  rfl
end K41
end Dm

namespace Dm
open PySem L2
theorem comp1R0 {Γ : Env} {elt : E} {it : Wk} {sc : Scope} {q p : Pos} {x y : Str} {i : Nat} {L : List Slot} {S1 : List OD} {items : List D} {s0 : St} (P : List OD → Prop) (Q : D → List D → Prop) (hb : L[i]? = some .no ∨ ∃ d, L[i]? = some (.val d)) (hit : denIt Γ it s0 = some (items, ⟨L, S1⟩)) (hz : items.length ≤ sizeLine)
    (h : ∀ v ∈ items, ∀ S, P S → ∃ a S', P S' ∧ Q v a ∧ denF Γ elt ⟨L.set i (.val v), S⟩ = some (a, ⟨L.set i (.val v), S'⟩)) (hP : P S1) :
    ∃ ys S', P S' ∧ All2 Q items ys ∧ denR Γ (.comp elt (.nm i x p) it .nil sc [(y, i)] q) s0 = some (ys, ⟨L, S'⟩) := by
  have hi : i < L.length := by
    rcases hb with h | ⟨d, h⟩ <;> exact (List.getElem?_eq_some_iff.mp h).1
  obtain ⟨ys, S', L', p1, p2, p3, p4⟩ := run1 (Γ := Γ) (x := x) (p := p) P Q hi h hP
  refine ⟨ys, S', p1, p2, ?_⟩
  have hz' : ys.length ≤ sizeLine := by rw [← forall₂_len p2]; exact hz
  have hs := inBlk_sp p3 p4 (back1 hb) hz'
  simp only [denR, bnd, hit]
  exact hs
theorem setII_ok {mi mj : M D} {j k l : Nat} {L : List Slot} {S S2 : List OD} {dss : List (List D)} {ds : List D} {d : D} {s1 : St} {L2 : List Slot} (hL : L[j]? = some (.own (.ll dss))) (hn : (L.set j .no).all Slot.notOwn = true)
    (h1 : mi ⟨L.set j (.val (OD.ll dss).toD), S⟩ = some (.int k, s1)) (hk : k < dss.length) (hd : dss[k]? = some ds) (h2 : mj s1 = some (.int l, ⟨L2, S2⟩)) (hl : l < ds.length) (hf : S2.all OD.flat = true) :
    setII mi mj j d ⟨L, S⟩ = some (.nx, ⟨L.set j (.own (.ll (dss.set k (ds.set l d)))), S2⟩) := by
  unfold setII
  simp only [hL, hn, if_true, h1, ix_nat hk, hd, h2, ix_nat hl, hf]
theorem getD_mem {α : Type} {r : List α} {y : Nat} {d : α} (h : y < r.length) : r.getD y d ∈ r := by simp [h]
section
variable {Γ : Env}
theorem oe_v {e : E} {s s1 : St} {d : D} (h : den Γ e s = some (d, s1)) : denOE Γ (.v e) s = some (.val d, s1) := by
  rw [denOE, bnd_ok h]; rfl
theorem oe_r {e : E} {s s1 : St} {d : List (List D)} (h : denR Γ e s = some (d, s1)) : denOE Γ (.oo e) s = some (.own (.ll d), s1) := by
  rw [denOE, bnd_ok h]; rfl
theorem oe_c {f : Nat} {x : Str} {p q : Pos} {as : As} {s : St} {sl : List Slot} {L : List Slot} {S S' : List OD} {d : List (List D)} (ha : denAs Γ as s = some (sl, ⟨L, S⟩)) (h : Γ.call f sl S = some (.ll d, S')) : denOE Γ (.oc (.call f x p as q)) s = some (.own (.ll d), ⟨L, S'⟩) := by
  have h1 : denC Γ (.call f x p as q) s = some (.ll d, ⟨L, S'⟩) := by
    rw [denC, bnd_ok ha]
    simp only [bnd, doCall, h]
    rfl
  rw [denOE, bnd_ok h1]; rfl
theorem x_set {e : OE} {nm : Nm} {p : Pos} {s : St} {x : Slot} {L : List Slot} {S : List OD} (h : denOE Γ e s = some (x, ⟨L, S⟩)) (hi : nm.i < L.length) : exec Γ (.set nm e p) s = some (.nx, ⟨L.set nm.i x, S⟩) := by
  rw [exec, bnd_ok h]
  simp only [ret, bnd, setSlot, hi, if_true]
theorem x_par2 {e1 e2 : OE} {n1 n2 : Nm} {kt ke : Nat} {pt pe p : Pos} {s s1 : St} {x1 x2 : Slot} {L : List Slot} {S : List OD} (h1 : denOE Γ e1 s = some (x1, s1)) (h2 : denOE Γ e2 s1 = some (x2, ⟨L, S⟩)) (hi : n1.i < L.length) (hj : n2.i < L.length) :
    exec Γ (.par [n1, n2] kt pt [e1, e2] ke pe p) s = some (.nx, ⟨(L.set n1.i x1).set n2.i x2, S⟩) := by
  simp only [exec, denOEs, bnd, h1, h2, ret, setSlots, setSlot, hi, List.length_set, hj, if_true]
end
namespace K41
variable {n m : Nat} {S : List OD} {f : Nat → Nat → Nat}
structure Rws (n : Nat) (dss : List (List D)) : Prop where
  len : dss.length = n
  row : ∀ r ∈ dss, r.length = n ∧ Is' n r
theorem Rws.of (hT : Tb n f) : Rws n ((List.range n).map fun x => rowL n (f x)) := by
  refine ⟨by simp, fun r hr => ?_⟩
  obtain ⟨x, hx, rfl⟩ := List.mem_map.mp hr
  refine ⟨rowL_len, fun d hd => ?_⟩
  obtain ⟨y, hy, rfl⟩ := rowL_mem hd
  exact ⟨_, hT.in' x (List.mem_range.mp hx) y hy, rfl⟩
theorem Rws.to {dss : List (List D)} (h : Rws n dss) (h1 : 1 ≤ n) (h7 : n ≤ 7) : ∃ f, Tb n f ∧ (OD.ll dss).toD = rowsD n f := by
  let num : D → Nat := fun d => match d with | .int k => k.toNat | _ => 0
  have hx : ∀ x, x < n → dss.getD x [] ∈ dss := fun x hx => by
    have : x < dss.length := by rw [h.len]; exact hx
    simp [this]
  have hy : ∀ x, x < n → ∀ y, y < n → ∃ k : Nat, k < n ∧ (dss.getD x []).getD y .non = .int k := fun x hx' y hy => by
    obtain ⟨l1, l2⟩ := h.row _ (hx x hx')
    have : y < (dss.getD x []).length := by rw [l1]; exact hy
    exact l2 _ (getD_mem this)
  refine ⟨fun x y => num ((dss.getD x []).getD y .non), ⟨h1, h7, fun x hx' y hy' => ?_⟩, ?_⟩
  · obtain ⟨k, hk, e⟩ := hy x hx' y hy'
    simp only [e, num]
    simpa using hk
  · show D.lst (dss.map D.lst) = _
    unfold rowsD rowsL
    congr 1
    rw [map_range (d := []), h.len]
    refine List.map_congr_left fun x hx' => ?_
    have hx' := List.mem_range.mp hx'
    congr 1
    obtain ⟨l1, l2⟩ := h.row _ (hx x hx')
    conv => lhs; rw [← List.map_id (dss.getD x []), map_range (d := .non), l1]
    unfold rowL
    refine List.map_congr_left fun y hy' => ?_
    obtain ⟨k, hk, e⟩ := hy x hx' y (List.mem_range.mp hy')
    simp only [e, num, id]
    simp
theorem Rws.set {dss : List (List D)} {ds : List D} {k l v : Nat} (h : Rws n dss) (hd : dss[k]? = some ds) (hv : v < n) : Rws n (dss.set k (ds.set l (.int v))) := by
  have hds := List.mem_of_getElem? hd
  refine ⟨by rw [List.length_set, h.len], fun r hr => ?_⟩
  rcases List.mem_or_eq_of_mem_set hr with hr | rfl
  · exact h.row r hr
  · obtain ⟨l1, l2⟩ := h.row ds hds
    refine ⟨by rw [List.length_set, l1], fun d hd' => ?_⟩
    rcases List.mem_or_eq_of_mem_set hd' with hd' | rfl
    · exact l2 d hd'
    · exact ⟨v, hv, rfl⟩
theorem Pot.flat (h : Pot S) : S.all OD.flat = true := by
  obtain ⟨a, b, rfl, _⟩ := h
  simp [OD.flat, D.atom]
theorem in12 {w : Nat} (h : w < 5) : inD (.int w) [.int 1, .int 2] = some (decide (w = 1 ∨ w = 2)) := by
  have hg : gd 1 (.lst [.int 1, .int 2]) := gd_lst fun d hd => by
    rcases List.mem_cons.mp hd with rfl | hd
    · exact gd_int
    · rw [List.mem_singleton] at hd; subst hd; exact gd_int
  unfold inD
  rw [(gd_int (k := 0)).shaped (by omega), hg.shaped (by omega)]
  simp [D.py, PyData.eqv]
  rw [Bool.eq_iff_iff]
  simp
  omega
theorem table (hm : 5 ≤ m) (hS : Pot S) : ∃ (n : Nat) (f : Nat → Nat → Nat) (S' : List OD), Tb n f ∧ Pot S' ∧ cl m 27 [.ref 0] S = some (.leaf (rowsD n f), S') := by
  obtain ⟨n, f0, S1, hT, hS1, e1⟩ := melting (m := m - 1) (by omega) hS
  have h1 := hT.pos
  have h7 := hT.most
  obtain ⟨w, S2, hS2, hw, e2⟩ := draw (n := m - 1) (S := S1) (by omega) (m := 5) (by omega) (by omega) hS1
  have hR0 := Rws.of hT
  generalize ((List.range n).map fun x => rowL n (f0 x)) = dss0 at *
  -- both are stored
  have g0 : exec (G (m - 1)) t27_0 ⟨[.ref 0, .no, .no, .no, .no, .no], S⟩ = some (.nx, ⟨[.ref 0, .own (.ll dss0), .val (.int w), .no, .no, .no], S2⟩) := by
    exact x_par2 (oe_c (a_shr rfl a_nil) e1) (oe_v (v_call (a_shr rfl (a_val (v_con rfl) a_nil)) e2)) (by simp) (by simp)
  -- a drawn one
  have len_o : ∀ {dss : List (List D)} {y2 y3 y4 y5 : Slot} {S : List OD} {x : Str} {p1 p2 p3 : Pos}, Rws n dss → den (G (m - 1)) (.bi1 .len p1 (.bv 1 x p2) p3) ⟨[.ref 0, .own (.ll dss), y2, y3, y4, y5], S⟩ = some (.int n, ⟨[.ref 0, .own (.ll dss), y2, y3, y4, y5], S⟩) := by
    intro dss y2 y3 y4 y5 S x p1 p2 p3 hR
    have b : bi1D .len (.lst (dss.map D.lst)) = some (.int n) := by rw [b1L, List.length_map, hR.len]
    simp [den, opn_bv, peek, peekO, bnd, OD.toD, b, ofO_s, ret]
  have len_v : ∀ {dss : List (List D)} {y2 y3 y4 y5 : Slot} {S : List OD} {x : Str} {p1 p2 p3 : Pos}, Rws n dss → den (G (m - 1)) (.bi1 .len p1 (.bv 1 x p2) p3) ⟨[.ref 0, .val (.lst (dss.map D.lst)), y2, y3, y4, y5], S⟩ = some (.int n, ⟨[.ref 0, .val (.lst (dss.map D.lst)), y2, y3, y4, y5], S⟩) := by
    intro dss y2 y3 y4 y5 S x p1 p2 p3 hR
    have b : bi1D .len (.lst (dss.map D.lst)) = some (.int n) := by rw [b1L, List.length_map, hR.len]
    simp [den, opn_bv, peek, peekO, bnd, OD.toD, b, ofO_s, ret]
  have st1 : ∃ dss S', Rws n dss ∧ Pot S' ∧ exec (G (m - 1)) t27_1 ⟨[.ref 0, .own (.ll dss0), .val (.int w), .no, .no, .no], S2⟩ = some (.nx, ⟨[.ref 0, .own (.ll dss), .val (.int w), .no, .no, .no], S'⟩) := by
    by_cases hw0 : w = 0
    · have c : cmpD .Eq (.int w) (.int 0) = some (.bl true) := by subst hw0; simp [cmpD, eq_int]
      obtain ⟨ys, S3, hS3, hy, e3⟩ : ∃ ys S', Pot S' ∧ All2 (fun _ r => r.length = n ∧ Is' n r) (dss0.map D.lst) ys ∧ denR (G (m - 1)) c27_1 ⟨[.ref 0, .own (.ll dss0), .val (.int w), .no, .no, .no], S2⟩ = some (ys, ⟨[.ref 0, .val (.lst (dss0.map D.lst)), .val (.int w), .no, .no, .no], S'⟩) :=
        comp1R0 (S1 := S2) Pot _ (.inl rfl) (by simp [denIt, den, readVar, bnd, OD.toD, itD, ofO_s, ret]) (by rw [List.length_map, hR0.len]; unfold sizeLine; omega) (fun v hv S hS => by
          obtain ⟨zs, S4, hS4, hz, e4⟩ : ∃ ys S', Pot S' ∧ All2 (fun _ d => ∃ k : Nat, k < n ∧ d = .int k) (dss0.map D.lst) ys ∧ denF (G (m - 1)) c27_0 ⟨[.ref 0, .val (.lst (dss0.map D.lst)), .val (.int w), .no, .val v, .no], S⟩ = some (ys, ⟨[.ref 0, .val (.lst (dss0.map D.lst)), .val (.int w), .no, .val v, .no], S'⟩) :=
            comp1F (S1 := S) Pot _ (.inl rfl) (it_l rfl) (by rw [List.length_map, hR0.len]; unfold sizeLine; omega) (fun u hu S hS => by
              obtain ⟨r, S', hp, hr, ed⟩ := draw (n := m - 1) (S := S) (by omega) (m := n) (by omega) (by omega) hS
              exact ⟨.int r, S', hp, ⟨r, by omega, rfl⟩, v_call (a_shr rfl (a_val (len_v hR0) a_nil)) ed⟩) hS
          refine ⟨zs, S4, hS4, ⟨?_, forall₂_right hz⟩, e4⟩
          rw [← forall₂_len hz, List.length_map, hR0.len]) hS2
      refine ⟨ys, S3, ⟨by rw [← forall₂_len hy, List.length_map, hR0.len], forall₂_right hy⟩, hS3, ?_⟩
      exact x_iff_t (v_cmp (fun _ _ _ z => by cases z) (fun _ _ _ z => by cases z) (v_var rfl) (v_con rfl) c) ((r_nx (x_set (oe_r e3) (by simp))).trans rfl)
    · have c : cmpD .Eq (.int w) (.int 0) = some (.bl false) := by simp [cmpD, eq_int, hw0]
      exact ⟨dss0, S2, hR0, hS2, x_skip (v_cmp (fun _ _ _ z => by cases z) (fun _ _ _ z => by cases z) (v_var rfl) (v_con rfl) c)⟩
  obtain ⟨dss1, S3, hR1, hS3, g1⟩ := st1
  -- an entry or two otherwise
  have st2 : ∃ dss S' y3, Rws n dss ∧ Pot S' ∧ exec (G (m - 1)) t27_2 ⟨[.ref 0, .own (.ll dss1), .val (.int w), .no, .no, .no], S3⟩ = some (.nx, ⟨[.ref 0, .own (.ll dss), .val (.int w), y3, .no, .no], S'⟩) := by
    have ci : cmpD .In (.int w) (.lst [.int 1, .int 2]) = some (.bl (decide (w = 1 ∨ w = 2))) := by
      simp only [cmpD]
      rw [in12 (by omega)]
      rfl
    have cd : den (G (m - 1)) (.cmp (.var 2 "_law_way" (P 134 7 15)) .In (.lst (.cons (.con (.int 1) 0 (P 134 20 21)) (.cons (.con (.int 2) 0 (P 134 23 24)) .nil)) (P 134 19 25)) (P 134 7 25)) ⟨[.ref 0, .own (.ll dss1), .val (.int w), .no, .no, .no], S3⟩ = some (.bl (decide (w = 1 ∨ w = 2)), ⟨[.ref 0, .own (.ll dss1), .val (.int w), .no, .no, .no], S3⟩) :=
      v_cmp (fun _ _ _ z => by cases z) (fun _ _ _ z => by cases z) (v_var rfl) (v_lst2 (v_con rfl) (v_con rfl)) ci
    by_cases hw : w = 1 ∨ w = 2
    · rw [decide_eq_true hw] at cd
      obtain ⟨s', e5, dss, y3, S4, rfl, hR, hS4, h3⟩ := for_inv (t := .nm 3 "_law_turn" (P 135 12 21)) (body := execs (G (m - 1)) s27_1) (items := vals w) (fun s => ∃ dss y3 S, s = ⟨[.ref 0, .own (.ll dss), .val (.int w), y3, .no, .no], S⟩ ∧ Rws n dss ∧ Pot S ∧ okY y3) (fun v hv s hs => by
        obtain ⟨dss, y3, S, rfl, hR, hS, h3⟩ := hs
        obtain ⟨d, T1, hT1, hd, ed⟩ := draw (n := m - 1) (S := S) (by omega) (m := n) (by omega) (by omega) hS
        obtain ⟨a, T2, hT2, ha, ea⟩ := draw (n := m - 1) (S := T1) (by omega) (m := n) (by omega) (by omega) hT1
        obtain ⟨b, T3, hT3, hb, eb⟩ := draw (n := m - 1) (S := T2) (by omega) (m := n) (by omega) (by omega) hT2
        have hal : a < dss.length := by rw [hR.len]; omega
        have hda : dss[a]? = some dss[a] := List.getElem?_eq_getElem hal
        have hbl : b < dss[a].length := by rw [(hR.row _ (List.getElem_mem hal)).1]; omega
        refine ⟨⟨[.ref 0, .own (.ll dss), .val (.int w), .val v, .no, .no], S⟩, ⟨[.ref 0, .own (.ll (dss.set a (dss[a].set b (.int d)))), .val (.int w), .val v, .no, .no], T3⟩, rfl, ?_, _, _, _, rfl, hR.set hda (by omega), hT3, .inr ⟨_, rfl⟩⟩
        have q : exec (G (m - 1)) u27_1 ⟨[.ref 0, .own (.ll dss), .val (.int w), .val v, .no, .no], S⟩ = some (.nx, ⟨[.ref 0, .own (.ll (dss.set a (dss[a].set b (.int d)))), .val (.int w), .val v, .no, .no], T3⟩) := by
          rw [u27_1, exec, bnd_ok (v_call (a_shr rfl (a_val (len_o hR) a_nil)) ed)]
          exact setII_ok rfl rfl (v_call (a_shr rfl (a_val (len_v hR) a_nil)) ea) hal hda (v_call (a_shr rfl (a_val (len_v hR) a_nil)) eb) hbl hT3.flat
        exact (r_nx q).trans rfl) (s := ⟨[.ref 0, .own (.ll dss1), .val (.int w), .no, .no, .no], S3⟩) ⟨dss1, .no, S3, rfl, hR1, hS3, .inl rfl⟩
      refine ⟨dss, S4, y3, hR, hS4, x_iff_t cd ((r_nx ?_).trans rfl)⟩
      rw [u27_2, exec, bnd_ok (rng_ok (v_var rfl) (by omega))]
      exact e5
    · rw [decide_eq_false hw] at cd
      exact ⟨dss1, S3, .no, hR1, hS3, x_skip cd⟩
  obtain ⟨dss2, S4, y3, hR2, hS4, g2⟩ := st2
  obtain ⟨f, hT', ef⟩ := hR2.to h1 h7
  refine ⟨n, f, S4, hT', hS4, ?_⟩
  rw [← ef]
  refine call_ok (d := d27) rfl (by omega) rfl (L' := [.ref 0, .val (OD.ll dss2).toD, .val (.int w), y3, .no, .no]) ?_
  show execs _ (.cons t27_0 (.cons t27_1 (.cons t27_2 (.cons t27_3 .nil)))) ⟨[.ref 0, .no, .no, .no, .no, .no], S⟩ = _
  rw [r_nx g0, r_nx g1, r_nx g2]
  refine r_rt (x_ret ?_)
  rw [den]
  rfl
end K41
end Dm

namespace Dm
open PySem L2
namespace K41
variable {n m : Nat} {S : List OD} {f : Nat → Nat → Nat}
/-! ### the plain law: tables that melt -/
structure SL (n : Nat) (f : Nat → Nat → Nat) : Prop where
  idem : ∀ x, x < n → f x x = x
  comm : ∀ x y, x < n → y < n → f x y = f y x
  asso : ∀ x y z, x < n → y < n → z < n → f (f x y) z = f x (f y z)
theorem res_I {x : Nat} : (I x).res f = x := by simp [I, Tr.res]
theorem mB_iff : mB n f = true ↔ SL n f := by
  unfold mB pt
  rw [Option.isNone_iff_eq_none, List.find?_eq_none]
  constructor
  · intro h
    have h : ∀ p ∈ known n, p.1.res f = p.2.res f := fun p hp => by
      have := h p hp
      simpa using this
    refine ⟨fun x hx => ?_, fun x y hx hy => ?_, fun x y z hx hy hz => ?_⟩
    · simpa [Tr.res, res_I] using h _ (known_mem.mpr (.inl ⟨x, hx, rfl⟩))
    · simpa [Tr.res, res_I] using h _ (known_mem.mpr (.inr (.inl ⟨x, y, hx, hy, rfl⟩)))
    · simpa [Tr.res, res_I] using h _ (known_mem.mpr (.inr (.inr ⟨x, y, z, hx, hy, hz, rfl⟩)))
  · intro h p hp
    have : p.1.res f = p.2.res f := by
      rcases known_mem.mp hp with ⟨x, hx, rfl⟩ | ⟨x, y, hx, hy, rfl⟩ | ⟨x, y, z, hx, hy, hz, rfl⟩
      · simp [Tr.res, res_I, h.idem x hx]
      · simp [Tr.res, res_I, h.comm x y hx hy]
      · simp [Tr.res, res_I, h.asso x y z hx hy hz]
    simp [this]
theorem lawM (hT : Tb n f) : (!((List.range n).any fun x => (List.range n).any (bad n f x))) = mB n f := by
  rw [Bool.eq_iff_iff, mB_iff, Bool.not_eq_true', ← Bool.not_eq_true, List.any_eq_true]
  constructor
  · intro h
    have h : ∀ x, x < n → ∀ y, y < n → bad n f x y = false := fun x hx y hy => by
      rw [← Bool.not_eq_true]
      intro z
      exact h ⟨x, List.mem_range.mpr hx, List.any_eq_true.mpr ⟨y, List.mem_range.mpr hy, z⟩⟩
    have h' : ∀ x, x < n → ∀ y, y < n → f x x = x ∧ f x y = f y x ∧ ∀ z, z < n → f (f x y) z = f x (f y z) := fun x hx y hy => by
      have := h x hx y hy
      unfold bad at this
      rw [Bool.or_eq_false_iff, Bool.or_eq_false_iff] at this
      refine ⟨by simpa using this.1.1, by simpa using this.1.2, fun z hz => ?_⟩
      have h3 := List.any_eq_false.mp this.2 z (List.mem_range.mpr hz)
      simpa using h3
    exact ⟨fun x hx => (h' x hx x hx).1, fun x y hx hy => (h' x hx y hy).2.1, fun x y z hx hy hz => (h' x hx y hy).2.2 z hz⟩
  · rintro h ⟨x, hx, hh⟩
    obtain ⟨y, hy, hb⟩ := List.any_eq_true.mp hh
    have hx := List.mem_range.mp hx
    have hy := List.mem_range.mp hy
    unfold bad at hb
    rw [h.idem x hx, h.comm x y hx hy] at hb
    simp at hb
    obtain ⟨z, hz, hb⟩ := hb
    rw [← h.comm x y hx hy] at hb
    exact hb (h.asso x y z hx hy hz)
/-! ### what comes of many values -/
def jn (f : Nat → Nat → Nat) : List Nat → Nat
  | [] => 0
  | [x] => x
  | x :: y :: r => f x (jn f (y :: r))
theorem jn_lt (hT : Tb n f) : ∀ {l : List Nat}, l ≠ [] → (∀ x ∈ l, x < n) → jn f l < n
  | [x], _, h => h x List.mem_cons_self
  | x :: y :: r, _, h => hT.in' _ (h x List.mem_cons_self) _ (jn_lt hT (by simp) fun z hz => h z (List.mem_cons_of_mem _ hz))
theorem jn_app (hT : Tb n f) (h : SL n f) : ∀ {a b : List Nat}, a ≠ [] → b ≠ [] → (∀ x ∈ a, x < n) → (∀ x ∈ b, x < n) → jn f (a ++ b) = f (jn f a) (jn f b)
  | [x], b, _, hb, h1, h2 => by
    match b, hb with
    | y :: r, _ => rfl
  | x :: y :: r, b, _, hb, h1, h2 => by
    have hr : ∀ z ∈ y :: r, z < n := fun z hz => h1 z (List.mem_cons_of_mem _ hz)
    have ih := jn_app hT h (a := y :: r) (b := b) (by simp) hb hr h2
    show f x (jn f ((y :: r) ++ b)) = f (f x (jn f (y :: r))) (jn f b)
    rw [ih, h.asso _ _ _ (h1 x List.mem_cons_self) (jn_lt hT (by simp) hr) (jn_lt hT hb h2)]
theorem jn_abs (hT : Tb n f) (h : SL n f) : ∀ {l : List Nat} {x : Nat}, (∀ y ∈ l, y < n) → x ∈ l → f x (jn f l) = jn f l
  | [y], x, hl, hx => by
    rw [List.mem_singleton] at hx; subst hx
    exact h.idem x (hl x List.mem_cons_self)
  | y :: z :: r, x, hl, hx => by
    have hy := hl y List.mem_cons_self
    have hr : ∀ w ∈ z :: r, w < n := fun w hw => hl w (List.mem_cons_of_mem _ hw)
    have hj := jn_lt hT (l := z :: r) (by simp) hr
    show f x (f y (jn f (z :: r))) = f y (jn f (z :: r))
    rcases List.mem_cons.mp hx with rfl | hx
    · rw [← h.asso x x _ hy hy hj, h.idem x hy]
    · have hxn := hr x hx
      rw [← h.asso x y _ hxn hy hj, h.comm x y hxn hy, h.asso y x _ hy hxn hj, jn_abs hT h hr hx]
theorem jn_sub (hT : Tb n f) (h : SL n f) : ∀ {b a : List Nat}, b ≠ [] → a ≠ [] → (∀ y ∈ a, y < n) → (∀ x ∈ b, x ∈ a) → f (jn f b) (jn f a) = jn f a
  | [x], a, _, _, ha, hb => jn_abs hT h ha (hb x List.mem_cons_self)
  | x :: y :: r, a, _, h0, ha, hb => by
    have hx := ha x (hb x List.mem_cons_self)
    have hr : ∀ z ∈ y :: r, z ∈ a := fun z hz => hb z (List.mem_cons_of_mem _ hz)
    have hj := jn_lt hT (l := y :: r) (by simp) fun z hz => ha z (hr z hz)
    have hja := jn_lt hT h0 ha
    show f (f x (jn f (y :: r))) (jn f a) = jn f a
    rw [h.asso x _ _ hx hj hja, jn_sub hT h (by simp) h0 ha hr, jn_abs hT h ha (hb x List.mem_cons_self)]
theorem jn_ext (hT : Tb n f) (h : SL n f) {a b : List Nat} (ha : a ≠ []) (hb : b ≠ []) (hn : ∀ y ∈ a, y < n) (hab : ∀ x, x ∈ a ↔ x ∈ b) : jn f a = jn f b := by
  have hnb : ∀ y ∈ b, y < n := fun y hy => hn y ((hab y).mpr hy)
  rw [← jn_sub hT h hb ha hn fun x hx => (hab x).mpr hx, h.comm _ _ (jn_lt hT hb hnb) (jn_lt hT ha hn), jn_sub hT h ha hb hnb fun x hx => (hab x).mp hx]
def num : D → Nat
  | .int k => k.toNat
  | _ => 0
theorem res_jn (hT : Tb n f) (h : SL n f) : ∀ {t : Tr}, t.ml n = true → t.res f = jn f (t.vl.map num) ∧ t.vl.map num ≠ [] ∧ ∀ y ∈ t.vl.map num, y < n
  | .lf d, hm => by
    obtain ⟨k, hk, rfl⟩ := isV_int (by simpa [Tr.ml, Tr.lv] using hm)
    exact ⟨by simp [Tr.res, Tr.vl, jn, num], by simp [Tr.vl], fun y hy => by simp [Tr.vl, num] at hy; omega⟩
  | .nd a b, hm => by
    rw [Tr.ml_nd, Bool.and_eq_true] at hm
    obtain ⟨a1, a2, a3⟩ := res_jn hT h hm.2
    obtain ⟨b1, b2, b3⟩ := res_jn hT h hm.1
    rw [Tr.vl, List.map_append]
    refine ⟨?_, fun z => a2 (List.append_eq_nil_iff.mp z).1, fun y hy => (List.mem_append.mp hy).elim (a3 y) (b3 y)⟩
    rw [jn_app hT h a2 b2 a3 b3, ← a1, ← b1]
    rfl
theorem res_ext (hT : Tb n f) (h : SL n f) {a b : Tr} (ha : a.ml n = true) (hb : b.ml n = true) (hab : ∀ d, d ∈ a.vl ↔ d ∈ b.vl) : a.res f = b.res f := by
  obtain ⟨a1, a2, a3⟩ := res_jn hT h ha
  obtain ⟨b1, b2, b3⟩ := res_jn hT h hb
  rw [a1, b1]
  refine jn_ext hT h a2 b2 a3 fun x => ?_
  simp only [List.mem_map]
  exact ⟨fun ⟨d, h1, h2⟩ => ⟨d, (hab d).mp h1, h2⟩, fun ⟨d, h1, h2⟩ => ⟨d, (hab d).mpr h1, h2⟩⟩
/-! ### values called otherwise -/
/-- g is a new name for each value, h its way back -/
structure Otw (n : Nat) (g h : Nat → Nat) : Prop where
  lg : ∀ x, x < n → g x < n
  lh : ∀ x, x < n → h x < n
  gh : ∀ x, x < n → g (h x) = x
  hg : ∀ x, x < n → h (g x) = x
theorem SL.turn {g h : Nat → Nat} (hT : Tb n f) (t : Otw n g h) (s : SL n f) : SL n fun x y => g (f (h x) (h y)) := by
  have hf : ∀ x y, x < n → y < n → f (h x) (h y) < n := fun x y hx hy => hT.in' _ (t.lh x hx) _ (t.lh y hy)
  refine ⟨fun x hx => ?_, fun x y hx hy => ?_, fun x y z hx hy hz => ?_⟩
  · simp only [s.idem _ (t.lh x hx), t.gh x hx]
  · simp only [s.comm _ _ (t.lh x hx) (t.lh y hy)]
  · simp only [t.hg _ (hf x y hx hy), t.hg _ (hf y z hy hz), s.asso _ _ _ (t.lh x hx) (t.lh y hy) (t.lh z hz)]
theorem turn_tb {g h : Nat → Nat} (hT : Tb n f) (t : Otw n g h) : Tb n fun x y => g (f (h x) (h y)) :=
  ⟨hT.pos, hT.most, fun x hx y hy => t.lg _ (hT.in' _ (t.lh x hx) _ (t.lh y hy))⟩
theorem mB_turn {g h : Nat → Nat} (hT : Tb n f) (t : Otw n g h) : mB n (fun x y => g (f (h x) (h y))) = mB n f := by
  rw [Bool.eq_iff_iff, mB_iff, mB_iff]
  refine ⟨fun s => ?_, fun s => s.turn hT t⟩
  have s2 := s.turn (turn_tb hT t) (⟨t.lh, t.lg, t.hg, t.gh⟩ : Otw n h g)
  have key : ∀ x y, x < n → y < n → h (g (f (h (g x)) (h (g y)))) = f x y := fun x y hx hy => by
    rw [t.hg x hx, t.hg y hy, t.hg _ (hT.in' x hx y hy)]
  refine ⟨fun x hx => ?_, fun x y hx hy => ?_, fun x y z hx hy hz => ?_⟩
  · have := s2.idem x hx
    simp only [key x x hx hx] at this
    exact this
  · have := s2.comm x y hx hy
    simp only [key x y hx hy, key y x hy hx] at this
    exact this
  · have := s2.asso x y z hx hy hz
    simp only [key x y hx hy, key y z hy hz, key _ z (hT.in' x hx y hy) hz, key x _ hx (hT.in' y hy z hz)] at this
    exact this
end K41
end Dm

namespace Dm
open PySem L2
theorem bRep {d : D} {k : Nat} (h : k < 1000) : binD .Mult (.lst [d]) (.int k) = some (.lst (List.replicate k d)) := by
  have : binD .Mult (.lst [d]) (.int k) = some (.lst (List.replicate (k : Int).toNat [d]).flatten) := by
    unfold binD
    simp only []
    rw [if_pos ⟨by omega, by omega, by simp [sizeLine]; omega⟩]
  rw [this]
  simp
theorem v_new {Γ : Env} {k f : Nat} {x : Str} {p q : Pos} {as : As} {s s1 s2 : St} {sl : List Slot} {d : D} (ha : denAs Γ as s = some (sl, s1)) (h : make Γ k f sl s1 = some (d, s2)) : den Γ (.new k f x p as q) s = some (d, s2) := by
  rw [den, bnd_ok ha]
  exact h
theorem v_lst3 {Γ : Env} {a b c : E} {p : Pos} {s s1 s2 s3 : St} {x y z : D} (ha : den Γ a s = some (x, s1)) (hb : den Γ b s1 = some (y, s2)) (hc : den Γ c s2 = some (z, s3)) : den Γ (.lst (.cons a (.cons b (.cons c .nil))) p) s = some (.lst [x, y, z], s3) := by
  simp only [den, dens, bnd, ha, hb, hc, ret, List.length_cons, List.length_nil, sizeLine]
  rfl
theorem v_isi {Γ : Env} {a : E} {t : Ty} {p1 p2 p3 : Pos} {s s1 : St} {x : D} {b : Bool} (na : ∀ i z q, a ≠ .bv i z q) (ha : den Γ a s = some (x, s1)) (h : isiD x t = some b) : den Γ (.isi a t p1 p2 p3) s = some (.bl b, s1) := by
  rw [den]
  have h1 : opn (den Γ a) a = den Γ a := by
    unfold opn
    split
    · exact absurd rfl (na _ _ _)
    · rfl
  rw [h1, bnd_ok ha, h]; rfl
namespace K41
variable {n m : Nat} {S : List OD} {f : Nat → Nat → Nat}
/-! ### truths -/
def truD : D → D
  | .int k => if k < 2 then .bl (k == 1) else .int k
  | d => d
def Tr.tru : Tr → Tr
  | .lf d => .lf (truD d)
  | .nd a b => .nd a.tru b.tru
theorem Tr.tru_ok : ∀ {t : Tr}, t.ml n = true → t.tru.ok ∧ t.tru.dep = t.dep ∧ t.tru.cnt = t.cnt
  | .lf d, h => by
    obtain ⟨k, hk, rfl⟩ := isV_int (by simpa [Tr.ml, Tr.lv] using h)
    refine ⟨?_, rfl, rfl⟩
    show (∀ a b, truD (.int k) ≠ .tup [a, b]) ∧ Dm.gd 5 (truD (.int k))
    unfold truD
    simp only []
    split
    · exact ⟨(fun _ _ z => by cases z), gd_bl⟩
    · exact ⟨(fun _ _ z => by cases z), gd_int⟩
  | .nd a b, h => by
    rw [Tr.ml_nd, Bool.and_eq_true] at h
    obtain ⟨a1, a2, a3⟩ := Tr.tru_ok h.2
    obtain ⟨b1, b2, b3⟩ := Tr.tru_ok h.1
    exact ⟨⟨a1, b1⟩, by rw [Tr.tru, Tr.dep, Tr.dep, a2, b2], by rw [Tr.tru, Tr.cnt, Tr.cnt, a3, b3]⟩
theorem sp35 : ∀ {t : Tr} {m : Nat}, t.ml n = true → t.dep + 1 ≤ m → cl m 35 [.val t.d] S = some (.leaf t.tru.d, S)
  | .lf d, m, h, hm => by
    obtain ⟨k, hk, rfl⟩ := isV_int (by simpa [Tr.ml, Tr.lv] using h)
    refine call_ok (d := d35) rfl (by omega) rfl (L' := [.val (.int k)]) ?_
    show execs _ (.cons t35_0 (.cons t35_1 .nil)) ⟨[.val (.int k)], S⟩ = _
    rw [r_nx (s1 := ⟨[.val (.int k)], S⟩) (by simp [t35_0, exec, execs, den, dens, denB, denAs, denKs, denIt, denIfs, denEO, denOE, denOEs, denF, bnd, ret, readVar, peek, peekO, peekL, opn_bv, opn_var, opn_con, opn_glo, opn_tup, opn_lst, opn_bin, opn_sub, opn_att, opn_bi1, opn_call, opn_callK, opn_cmp, opn_ss, opn_sl, cmpM, subM, subB, attM, unaM, setSlot, setSlots, setV, setT, setTs, doCall, mutF, tst, andThen, ofO_s, leafD_l, tr_b, env_call, env_fn, env_wf, env_glob, conD, rtM, itD_l, itD_t, isiD])]
    refine r_rt (x_ret ?_)
    show _ = some (truD (.int k), _)
    by_cases hq : (k : Int) < 2
    · have c : cmpD .Lt (.int k) (.int 2) = some (.bl true) := by simp [cmpD, cmpI]; omega
      have c2 : cmpD .Eq (.int k) (.int 1) = some (.bl ((k : Int) == 1)) := by simp [cmpD, eq_int]
      have e : truD (.int k) = .bl ((k : Int) == 1) := by unfold truD; simp only []; rw [if_pos hq]
      rw [e]
      exact v_ife_t (v_cmp (fun _ _ _ z => by cases z) (fun _ _ _ z => by cases z) (v_var rfl) (v_con rfl) c) (v_cmp (fun _ _ _ z => by cases z) (fun _ _ _ z => by cases z) (v_var rfl) (v_con rfl) c2)
    · have c : cmpD .Lt (.int k) (.int 2) = some (.bl false) := by simp [cmpD, cmpI]; omega
      have e : truD (.int k) = .int k := by unfold truD; simp only []; rw [if_neg hq]
      rw [e]
      exact v_ife_f (v_cmp (fun _ _ _ z => by cases z) (fun _ _ _ z => by cases z) (v_var rfl) (v_con rfl) c) (v_var rfl)
  | .nd a b, m, h, hm => by
    rw [Tr.ml_nd, Bool.and_eq_true] at h
    rw [Tr.dep] at hm
    have ea := sp35 (t := a) (m := m - 1) h.2 (by omega)
    have eb := sp35 (t := b) (m := m - 1) h.1 (by omega)
    refine call_ok (d := d35) rfl (by omega) rfl (L' := [.val (.tup [a.d, b.d])]) ?_
    show execs _ (.cons t35_0 (.cons t35_1 .nil)) ⟨[.val (.tup [a.d, b.d])], S⟩ = _
    have i0 : ixD (.tup [a.d, b.d]) (.int 0) = some a.d := rfl
    have i1 : ixD (.tup [a.d, b.d]) (.int 1) = some b.d := rfl
    refine r_rt (x_iff_t (v_isi (fun _ _ _ z => by cases z) (v_var rfl) rfl) (r_rt (x_ret ?_)))
    exact v_tup2 (v_call (a_val (v_sub (fun _ _ _ z => by cases z) (v_var rfl) (v_con rfl) i0) a_nil) ea) (v_call (a_val (v_sub (fun _ _ _ z => by cases z) (v_var rfl) (v_con rfl) i1) a_nil) eb)
/-! ### halved and halved again -/
theorem even : ∀ (k : Nat) {xs : List D} {m : Nat}, xs ≠ [] → xs.length ≤ k → k < 1000 → k ≤ m → Is' n xs → ∃ t : Tr, t.ml n = true ∧ t.vl = xs ∧ cl m 36 [.val (.lst xs)] S = some (.leaf t.d, S)
  | 0, xs, m, h0, h1, _, _, _ => by
    cases xs with
    | nil => exact absurd rfl h0
    | cons => simp at h1
  | k + 1, xs, m, h0, h1, h2, hm, hx => by
    have hl : 0 < xs.length := List.length_pos_iff.mpr h0
    by_cases hq : xs.length = 1
    · have c : cmpD .Eq (.int xs.length) (.int 1) = some (.bl true) := by simp [cmpD, eq_int, hq]
      match xs, hq, hx with
      | [d], _, hx =>
        obtain ⟨j, hj, rfl⟩ := hx d List.mem_cons_self
        refine ⟨I j, I_ml hj, rfl, ?_⟩
        refine call_ok (d := d36) rfl (by omega) rfl (L' := [.val (.lst [.int j]), .no]) ?_
        exact r_rt (x_iff_t (v_cmp (fun _ _ _ z => by cases z) (fun _ _ _ z => by cases z) (v_bi1 (fun _ _ _ z => by cases z) (v_var rfl) b1L) (v_con rfl) c) (r_rt (x_ret (v_sub (fun _ _ _ z => by cases z) (v_var rfl) (v_con rfl) rfl))))
    · have c : cmpD .Eq (.int xs.length) (.int 1) = some (.bl false) := by simp [cmpD, eq_int]; omega
      have hd : binD .FloorDiv (.int xs.length) (.int 2) = some (.int (xs.length / 2 : Nat)) := by
        rw [bDiv (by omega)]
        rfl
      have s1 := sl_to (xs := xs) (k := xs.length / 2) (by omega)
      have s2 := sl_from (xs := xs) (k := xs.length / 2) (by omega)
      obtain ⟨a, a1, a2, a3⟩ := even k (xs := xs.take (xs.length / 2)) (m := m - 1) (fun z => by have := congrArg List.length z; rw [List.length_take] at this; simp only [List.length_nil] at this; omega) (by rw [List.length_take]; omega) (by omega) (by omega) (fun d hd => hx d (List.mem_of_mem_take hd))
      obtain ⟨b, b1, b2, b3⟩ := even k (xs := xs.drop (xs.length / 2)) (m := m - 1) (fun z => by have := congrArg List.length z; rw [List.length_drop] at this; simp only [List.length_nil] at this; omega) (by rw [List.length_drop]; omega) (by omega) (by omega) (fun d hd => hx d (List.mem_of_mem_drop hd))
      refine ⟨.nd a b, by rw [Tr.ml_nd, a1, b1]; rfl, by rw [Tr.vl, a2, b2, List.take_append_drop], ?_⟩
      refine call_ok (d := d36) rfl (by omega) rfl (L' := [.val (.lst xs), .val (.int (xs.length / 2 : Nat))]) ?_
      show execs _ (.cons t36_0 (.cons t36_1 (.cons t36_2 .nil))) ⟨[.val (.lst xs), .no], S⟩ = _
      have g0 : exec (G (m - 1)) t36_0 ⟨[.val (.lst xs), .no], S⟩ = some (.nx, ⟨[.val (.lst xs), .no], S⟩) := x_skip (v_cmp (fun _ _ _ z => by cases z) (fun _ _ _ z => by cases z) (v_bi1 (fun _ _ _ z => by cases z) (v_var rfl) b1L) (v_con rfl) c)
      rw [r_nx g0]
      rw [r_nx (show exec (G (m - 1)) t36_1 ⟨[.val (.lst xs), .no], S⟩ = some (.nx, ⟨[.val (.lst xs), .val (.int (xs.length / 2 : Nat))], S⟩) from x_setv (v_bin (v_bi1 (fun _ _ _ z => by cases z) (v_var rfl) b1L) (v_con rfl) hd) (by simp))]
      exact r_rt (x_ret (v_tup2 (v_call (a_val (v_slU (v_var rfl) (v_var rfl) s1) a_nil) a3) (v_call (a_val (v_slD (v_var rfl) (v_var rfl) s2) a_nil) b3)))
/-! ### long melts -/
def fL : Nat → Nat → Nat := fun _ y => y
theorem TbL : Tb 2 fL := ⟨by omega, by omega, fun x hx y hy => hy⟩
theorem res_last : ∀ {t : Tr} {d : D} {l : List D}, t.vl = l ++ [d] → t.res fL = num d
  | .lf e, d, l, h => by
    match l, h with
    | [], h =>
      simp [Tr.vl] at h
      subst h
      cases e <;> rfl
    | x :: l, h => simp [Tr.vl] at h
  | .nd a b, d, l, h => by
    have hb : b.vl ≠ [] := fun z => by have := b.vl_len; rw [z] at this; have := b.cnt_pos; simp at *; omega
    have e1 : b.vl = b.vl.dropLast ++ [b.vl.getLast hb] := (List.dropLast_concat_getLast hb).symm
    have e2 : b.vl.getLast hb = d := by
      rw [Tr.vl] at h
      have h1 : (a.vl ++ b.vl).getLast? = some d := by rw [h]; simp
      rw [List.getLast?_append, List.getLast?_eq_getLast hb] at h1
      simpa using h1
    show b.res fL = _
    rw [e2] at e1
    exact res_last e1
theorem bl3 {a b c a' b' c' : Bool} : eqD (.lst [.bl a, .bl b, .bl c]) (.lst [.bl a', .bl b', .bl c']) = some (a == a' && (b == b' && c == c')) := by
  have hg : ∀ a b c, gd 1 (.lst [.bl a, .bl b, .bl c]) := fun a b c => gd_lst fun d hd => by
    simp at hd
    rcases hd with rfl | rfl | rfl <;> exact gd_bl
  rw [eqD_gd (hg a b c) (hg a' b' c') (by omega) (by omega)]
  simp [D.py, D.pys, PyData.eqv, PyData.eqvAll]
theorem long_right (hm : 60 ≤ m) (hS : Pot S) : ∃ S', Pot S' ∧ cl m 37 [.ref 0] S = some (.leaf (.bl true), S') := by
  obtain ⟨r, S1, hS1, hr, e1⟩ := draw (n := m - 1) (S := S) (by omega) (m := 21) (by omega) (by omega) hS
  refine ⟨S1, hS1, ?_⟩
  have hrep : ∀ {k : Nat} {a b : Nat}, a < 2 → b < 2 → Is' 2 (List.replicate k (D.int a) ++ [D.int b]) := by
    intro k a b ha hb d hd
    rcases List.mem_append.mp hd with hd | hd
    · exact ⟨a, ha, List.eq_of_mem_replicate hd⟩
    · rw [List.mem_singleton] at hd; exact ⟨b, hb, hd⟩
  obtain ⟨one, o1, o2, o3⟩ := even (n := 2) (S := S1) 41 (xs := List.replicate (19 + r) (D.int (0 : Nat)) ++ [D.int (1 : Nat)]) (m := m - 1) (by simp) (by simp; omega) (by omega) (by omega) (hrep (by omega) (by omega))
  obtain ⟨oth, t1, t2, t3⟩ := even (n := 2) (S := S1) 41 (xs := List.replicate (19 + r) (D.int (1 : Nat)) ++ [D.int (0 : Nat)]) (m := m - 1) (by simp) (by simp; omega) (by omega) (by omega) (hrep (by omega) (by omega))
  obtain ⟨far, f1, f2, f3⟩ := even (n := 2) (S := S1) 41 (xs := List.replicate 40 (D.int (1 : Nat)) ++ [D.int (0 : Nat)]) (m := m - 1) (by simp) (by simp) (by omega) (by omega) (hrep (by omega) (by omega))
  have c1 : one.cnt = 20 + r := by rw [← Tr.vl_len, o2]; simp; omega
  have c2 : oth.cnt = 20 + r := by rw [← Tr.vl_len, t2]; simp; omega
  have c3 : far.cnt = 41 := by rw [← Tr.vl_len, f2]; simp
  have d1 := one.dep_cnt
  have d2 := oth.dep_cnt
  have d3 := far.dep_cnt
  have r1 : one.res fL = 1 := res_last o2
  have r2 : oth.res fL = 0 := res_last t2
  have pA : isP 2 fL (.nd one oth) = true := by
    have hs : ssI (intsD one.lv) = ssI (intsD oth.lv) := by
      rw [← ss_vl, ← ss_vl]
      refine ss_ext fun i => ?_
      rw [intsD_mem, intsD_mem, o2, t2]
      simp [List.mem_replicate]
      omega
    simp [isP, o1, t1, c1, c2, hs, r1, r2]
    omega
  have pB : isP 2 fL (.nd one far) = false := by simp [isP, c3]
  have pC : isP 2 fL (.nd one one) = false := by simp [isP]
  have q1 := sp20 (S := S1) (m := m - 1) TbL (t := .nd one oth) ⟨Tr.ml_ok o1, Tr.ml_ok t1⟩ (by rw [Tr.dep]; omega) (by rw [Tr.cnt]; omega) (by rw [Tr.dep]; omega)
  have q2 := sp20 (S := S1) (m := m - 1) TbL (t := .nd one far) ⟨Tr.ml_ok o1, Tr.ml_ok f1⟩ (by rw [Tr.dep]; omega) (by rw [Tr.cnt]; omega) (by rw [Tr.dep]; omega)
  have q3 := sp20 (S := S1) (m := m - 1) TbL (t := .nd one one) ⟨Tr.ml_ok o1, Tr.ml_ok o1⟩ (by rw [Tr.dep]; omega) (by rw [Tr.cnt]; omega) (by rw [Tr.dep]; omega)
  rw [pA] at q1
  rw [pB] at q2
  rw [pC] at q3
  obtain ⟨o, rfl⟩ : ∃ o, S = [o] := by obtain ⟨a, b, rfl, _⟩ := hS; exact ⟨_, rfl⟩
  have hmake := new_tab (m := m - 1) TbL (by omega) (o := o) (L := [.ref 0, .no, .no, .no, .no, .no, .no])
  have g0 : exec (G (m - 1)) t37_0 ⟨[.ref 0, .no, .no, .no, .no, .no, .no], [o]⟩ = some (.nx, ⟨[.ref 0, .val (tabD 2 fL), .val (.int (20 + r : Nat)), .no, .no, .no, .no], S1⟩) :=
    x_par2 (oe_v (v_new (a_val (v_lst2 (v_lst2 (v_con rfl) (v_con rfl)) (v_lst2 (v_con rfl) (v_con rfl))) a_nil) hmake)) (oe_v (v_bin (v_con rfl) (v_call (a_shr rfl (a_val (v_con rfl) a_nil)) e1) (by rw [bAdd]; simp))) (by simp) (by simp)
  have sub1 : binD .Sub (.int (20 + r : Nat)) (.int 1) = some (.int (19 + r : Nat)) := by
    rw [bSub]
    congr 2
    omega
  have g1 : exec (G (m - 1)) t37_1 ⟨[.ref 0, .val (tabD 2 fL), .val (.int (20 + r : Nat)), .no, .no, .no, .no], S1⟩ = some (.nx, ⟨[.ref 0, .val (tabD 2 fL), .val (.int (20 + r : Nat)), .val one.d, .val oth.d, .no, .no], S1⟩) :=
    x_par2 (oe_v (v_call (a_val (v_bin (v_bin (v_lst1 (v_con rfl)) (v_bin (v_var rfl) (v_con rfl) sub1) (bRep (by omega))) (v_lst1 (v_con rfl)) (bApp (by simp [sizeLine]; omega))) a_nil) o3)) (oe_v (v_call (a_val (v_bin (v_bin (v_lst1 (v_con rfl)) (v_bin (v_var rfl) (v_con rfl) sub1) (bRep (by omega))) (v_lst1 (v_con rfl)) (bApp (by simp [sizeLine]; omega))) a_nil) t3)) (by simp) (by simp)
  have g2 : exec (G (m - 1)) t37_2 ⟨[.ref 0, .val (tabD 2 fL), .val (.int (20 + r : Nat)), .val one.d, .val oth.d, .no, .no], S1⟩ = some (.nx, ⟨[.ref 0, .val (tabD 2 fL), .val (.int (20 + r : Nat)), .val one.d, .val oth.d, .val far.d, .no], S1⟩) :=
    x_setv (v_call (a_val (v_bin (v_bin (v_lst1 (v_con rfl)) (v_con rfl) (bRep (k := 40) (by omega))) (v_lst1 (v_con rfl)) (bApp (by simp [sizeLine]))) a_nil) f3) (by simp)
  have g3 : exec (G (m - 1)) t37_3 ⟨[.ref 0, .val (tabD 2 fL), .val (.int (20 + r : Nat)), .val one.d, .val oth.d, .val far.d, .no], S1⟩ = some (.nx, ⟨[.ref 0, .val (tabD 2 fL), .val (.int (20 + r : Nat)), .val one.d, .val oth.d, .val far.d, .val (.lst [.bl true, .bl false, .bl false])], S1⟩) :=
    x_setv (v_lst3 (v_call (a_shv rfl (a_val (v_tup2 (v_var rfl) (v_var rfl)) a_nil)) q1) (v_call (a_shv rfl (a_val (v_tup2 (v_var rfl) (v_var rfl)) a_nil)) q2) (v_call (a_shv rfl (a_val (v_tup2 (v_var rfl) (v_var rfl)) a_nil)) q3)) (by simp)
  refine call_ok (d := d37) rfl (by omega) rfl (L' := [.ref 0, .val (tabD 2 fL), .val (.int (20 + r : Nat)), .val one.d, .val oth.d, .val far.d, .val (.lst [.bl true, .bl false, .bl false])]) ?_
  show execs _ (.cons t37_0 (.cons t37_1 (.cons t37_2 (.cons t37_3 (.cons t37_4 .nil))))) ⟨[.ref 0, .no, .no, .no, .no, .no, .no], [o]⟩ = _
  rw [r_nx g0, r_nx g1, r_nx g2, r_nx g3]
  refine r_rt (x_ret (v_cmp (fun _ _ _ z => by cases z) (fun _ _ _ z => by cases z) (v_var rfl) (v_lst3 (v_con rfl) (v_con rfl) (v_con rfl)) ?_))
  simp only [cmpD, bl3]
  rfl
end K41
end Dm

namespace Dm
open PySem L2
section
variable {Γ : Env}
theorem e_nil {s : St} : dens Γ .nil s = some ([], s) := by rw [dens]; rfl
theorem e_cons {e : E} {es : Es} {s s1 s2 : St} {d : D} {ds : List D} (h : den Γ e s = some (d, s1)) (hs : dens Γ es s1 = some (ds, s2)) : dens Γ (.cons e es) s = some (d :: ds, s2) := by
  rw [dens, bnd_ok h, bnd_ok hs]; rfl
theorem v_lst {es : Es} {p : Pos} {s s1 : St} {ds : List D} (h : dens Γ es s = some (ds, s1)) (hl : ds.length ≤ 100) : den Γ (.lst es p) s = some (.lst ds, s1) := by
  rw [den, bnd_ok h, if_pos (by unfold sizeLine; omega)]
  rfl
theorem v_tup {es : Es} {k : Nat} {p : Pos} {s s1 : St} {ds : List D} (h : dens Γ es s = some (ds, s1)) (hl : ds.length ≤ 100) : den Γ (.tup es k p) s = some (.tup ds, s1) := by
  rw [den, bnd_ok h, if_pos (by unfold sizeLine; omega)]
  rfl
theorem x_asg {t : Tg} {e : E} {p : Pos} {s s1 s2 : St} {d : D} (h : den Γ e s = some (d, s1)) (ht : setT t d s1 = some ((), s2)) : exec Γ (.asg t e p) s = some (.nx, s2) := by
  rw [exec, bnd_ok h, bnd_ok ht]; rfl
theorem v_callK2 {f : Nat} {x k1 k2 : Str} {p q q1 q2 : Pos} {e1 e2 : E} {s s1 : St} {d1 d2 d : D} {L : List Slot} {S S' : List OD} (h1 : den Γ e1 s = some (d1, s1)) (h2 : den Γ e2 s1 = some (d2, ⟨L, S⟩)) (h : Γ.call f [.val d2, .val d1] S = some (.leaf d, S')) :
    den Γ (.callK f x p (.cons k1 e1 q1 (.cons k2 e2 q2 .nil)) 2 [1, 0] q) s = some (d, ⟨L, S'⟩) := by
  have hk : denKs Γ (.cons k1 e1 q1 (.cons k2 e2 q2 .nil)) s = some ([d1, d2], ⟨L, S⟩) := by
    simp only [denKs, bnd, h1, h2, ret]
  rw [den, bnd_ok hk]
  unfold callKM
  rw [if_pos (show (perm [1, 0] [d1, d2]).length = 2 from rfl), bnd_ok (show doCall Γ f _ ⟨L, S⟩ = some (.leaf d, ⟨L, S'⟩) by unfold doCall; simp only [show (perm [1, 0] [d1, d2]).map Slot.val = [.val d2, .val d1] from rfl, h])]
  rfl
theorem v_callK1 {f : Nat} {x k1 : Str} {p q q1 : Pos} {e1 : E} {s : St} {d1 d : D} {L : List Slot} {S S' : List OD} (h1 : den Γ e1 s = some (d1, ⟨L, S⟩)) (h : Γ.call f [.val d1] S = some (.leaf d, S')) :
    den Γ (.callK f x p (.cons k1 e1 q1 .nil) 1 [0] q) s = some (d, ⟨L, S'⟩) := by
  have hk : denKs Γ (.cons k1 e1 q1 .nil) s = some ([d1], ⟨L, S⟩) := by
    simp only [denKs, bnd, h1, ret]
  rw [den, bnd_ok hk]
  unfold callKM
  rw [if_pos (show (perm [0] [d1]).length = 1 from rfl), bnd_ok (show doCall Γ f _ ⟨L, S⟩ = some (.leaf d, ⟨L, S'⟩) by unfold doCall; simp only [show (perm [0] [d1]).map Slot.val = [.val d1] from rfl, h])]
  rfl
end
theorem bl2 {a b a' b' : Bool} : eqD (.lst [.bl a, .bl b]) (.lst [.bl a', .bl b']) = some (a == a' && b == b') := by
  have hg : ∀ a b, gd 1 (.lst [.bl a, .bl b]) := fun a b => gd_lst fun d hd => by
    simp at hd
    rcases hd with rfl | rfl <;> exact gd_bl
  rw [eqD_gd (hg a b) (hg a' b') (by omega) (by omega)]
  simp [D.py, D.pys, PyData.eqv, PyData.eqvAll]
theorem ne_bl2 {a : Bool} : cmpD .NotEq (.lst [.bl a, .bl a]) (.lst [.bl a, .bl a]) = some (.bl false) := by
  simp only [cmpD, bl2, Option.map_some]
  simp
namespace K41
variable {n m : Nat} {S : List OD} {f : Nat → Nat → Nat}
/-- things that are judged -/
structure Gt (t : Tr) : Prop where
  ok : t.ok
  dep : t.dep ≤ 20
  cnt : t.cnt ≤ 60
def GL (ds : List D) : Prop := ∀ d ∈ ds, ∃ t : Tr, Gt t ∧ d = t.d
theorem GL.app {a b : List D} (ha : GL a) (hb : GL b) : GL (a ++ b) := fun d hd => (List.mem_append.mp hd).elim (ha d) (hb d)
theorem GL.nil : GL [] := fun d hd => by cases hd
theorem GL.cons {t : Tr} {ds : List D} (h : Gt t) (hd : GL ds) : GL (t.d :: ds) := fun d hd' => by
  rcases List.mem_cons.mp hd' with rfl | hd'
  · exact ⟨t, h, rfl⟩
  · exact hd d hd'
theorem Gt.nd {a b : Tr} (ha : a.ok) (hb : b.ok) (h1 : a.dep ≤ 19) (h2 : b.dep ≤ 19) (h3 : a.cnt + b.cnt ≤ 60) : Gt (.nd a b) := ⟨⟨ha, hb⟩, by rw [Tr.dep]; omega, by rw [Tr.cnt]; exact h3⟩
theorem Gt.lf {d : D} (h1 : ∀ a b, d ≠ .tup [a, b]) (h2 : gd 5 d) : Gt (.lf d) := ⟨⟨h1, h2⟩, by simp [Tr.dep], by simp [Tr.cnt]⟩
theorem Tr.ml_gd : ∀ {t : Tr}, t.ml n = true → Dm.gd t.dep t.d
  | .lf d, h => by
    obtain ⟨k, hk, rfl⟩ := isV_int (by simpa [Tr.ml, Tr.lv] using h)
    exact gd_int
  | .nd a b, h => by
    rw [Tr.ml_nd, Bool.and_eq_true] at h
    rw [Tr.d, Tr.dep]
    refine gd_tup (k := max a.dep b.dep) fun d hd => ?_
    rcases List.mem_cons.mp hd with rfl | hd
    · exact (Tr.ml_gd h.2).mono (by omega)
    · rw [List.mem_singleton] at hd; subst hd
      exact (Tr.ml_gd h.1).mono (by omega)
theorem gd_00 : gd 5 (.str "00") := by
  unfold gd
  rw [D.py]
  exact ⟨by decide +kernel, by decide +kernel⟩
def odd8 : List D := [.non, .int 0, .tup [], .tup [.int 0, .int 0], .lst [.int 0, .int 0], .tup [.tup [.int 0, .int 0], .int 0], .tup [.int 0, .tup [.int 0, .int 0], .int 0], .str "00"]
theorem GL_odd : GL odd8 := by
  have i0 : (I 0).ok := ⟨(fun _ _ z => by cases z), gd_int⟩
  have z2 : ∀ {k}, ∀ d ∈ [D.int 0, D.int 0], gd k d := fun d hd => by
    simp at hd; subst hd; exact gd_int
  refine GL.cons (t := .lf .non) (.lf (fun _ _ z => by cases z) gd_non) (GL.cons (t := I 0) ⟨i0, by simp [I, Tr.dep], by simp [I, Tr.cnt]⟩ (GL.cons (t := .lf (.tup [])) (.lf (fun _ _ z => by cases z) (gd_tup (k := 4) fun d hd => by cases hd)) (GL.cons (t := .nd (I 0) (I 0)) (.nd i0 i0 (by simp [I, Tr.dep]) (by simp [I, Tr.dep]) (by simp [I, Tr.cnt]))
    (GL.cons (t := .lf (.lst [.int 0, .int 0])) (.lf (fun _ _ z => by cases z) (gd_lst (k := 4) z2)) (GL.cons (t := .nd (.nd (I 0) (I 0)) (I 0)) (.nd ⟨i0, i0⟩ i0 (by simp [I, Tr.dep]) (by simp [I, Tr.dep]) (by simp [I, Tr.cnt])) (GL.cons (t := .lf (.tup [.int 0, .tup [.int 0, .int 0], .int 0])) (.lf (fun _ _ z => by cases z) (gd_tup (k := 4) fun d hd => ?_)) (GL.cons (t := .lf (.str "00")) (.lf (fun _ _ z => by cases z) gd_00) .nil)))))))
  rcases List.mem_cons.mp hd with rfl | hd
  · exact gd_int
  · rcases List.mem_cons.mp hd with rfl | hd
    · exact gd_tup (k := 3) z2
    · rw [List.mem_singleton] at hd; subst hd; exact gd_int
/-- two melts that are told -/
structure Told (n : Nat) (a b : Tr) : Prop where
  ma : a.ml n = true
  mb : b.ml n = true
  da : a.dep ≤ 2
  db : b.dep ≤ 2
  ca : a.cnt ≤ 3
  cb : b.cnt ≤ 3
/-- each of the things is judged alike -/
theorem judge_loop (hT : Tb n f) (hm : 30 ≤ m) {y0 y3 y4 y5 y6 y9 : Slot} {ds : List D} (hd : GL ds) {y7 y8 : Slot} {x : Str} {p : Pos} :
    ∃ y7' y8', forM (.nm 7 x p) (execs (G m) s38_3) ds ⟨[y0, .val (tabD n f), .val (rowsD n f), y3, y4, y5, y6, y7, y8, y9], S⟩ = some (.nx, ⟨[y0, .val (tabD n f), .val (rowsD n f), y3, y4, y5, y6, y7', y8', y9], S⟩) := by
  obtain ⟨s', e, y7', y8', rfl⟩ := for_inv (t := .nm 7 x p) (body := execs (G m) s38_3) (items := ds) (fun s => ∃ y7 y8, s = ⟨[y0, .val (tabD n f), .val (rowsD n f), y3, y4, y5, y6, y7, y8, y9], S⟩) (fun v hv s hs => by
    obtain ⟨y7, y8, rfl⟩ := hs
    obtain ⟨t, ht, rfl⟩ := hd v hv
    have e1 := sp32 (S := S) (m := m) hT ht.ok (by have := ht.dep; omega) (by have := ht.cnt; omega) (by have := ht.dep; omega)
    have e2 := sp20 (S := S) (m := m) hT ht.ok (by have := ht.dep; omega) (by have := ht.cnt; omega) (by have := ht.dep; omega)
    refine ⟨⟨[y0, .val (tabD n f), .val (rowsD n f), y3, y4, y5, y6, .val t.d, y8, y9], S⟩, ⟨[y0, .val (tabD n f), .val (rowsD n f), y3, y4, y5, y6, .val t.d, .val (.bl (isP n f t)), y9], S⟩, rfl, ?_, _, _, rfl⟩
    have g1 : exec (G m) u38_5 ⟨[y0, .val (tabD n f), .val (rowsD n f), y3, y4, y5, y6, .val t.d, y8, y9], S⟩ = some (.nx, ⟨[y0, .val (tabD n f), .val (rowsD n f), y3, y4, y5, y6, .val t.d, .val (.bl (isP n f t)), y9], S⟩) := x_setv (v_call (a_shv rfl (a_shv rfl a_nil)) e1) (by simp)
    have g2 : exec (G m) u38_7 ⟨[y0, .val (tabD n f), .val (rowsD n f), y3, y4, y5, y6, .val t.d, .val (.bl (isP n f t)), y9], S⟩ = some (.nx, ⟨[y0, .val (tabD n f), .val (rowsD n f), y3, y4, y5, y6, .val t.d, .val (.bl (isP n f t)), y9], S⟩) :=
      x_skip (v_cmp (fun _ _ _ z => by cases z) (fun _ _ _ z => by cases z) (v_lst2 (v_call (a_shv rfl (a_shv rfl a_nil)) e2) (v_callK2 (v_var rfl) (v_var rfl) e2)) (v_lst2 (v_var rfl) (v_var rfl)) ne_bl2)
    unfold s38_3
    rw [r_nx g1, r_nx g2]
    rfl) (s := ⟨[y0, .val (tabD n f), .val (rowsD n f), y3, y4, y5, y6, y7, y8, y9], S⟩) ⟨_, _, rfl⟩
  exact ⟨y7', y8', e⟩
theorem judged (hT : Tb n f) (hm : 40 ≤ m) {told : D} (ht : told = .non ∨ ∃ a b, Told n a b ∧ told = pairD (a, b)) (hS : Pot S) : ∃ S', Pot S' ∧ cl m 38 [.ref 0, .val (tabD n f), .val (rowsD n f), .val told] S = some (.leaf (.bl true), S') := by
  have h7 := hT.most
  have h1 := hT.pos
  -- drawn ones
  obtain ⟨xs, S1, hS1, hx, ex⟩ : ∃ ys S', Pot S' ∧ All2 (fun _ d => ∃ t : Tr, Gt t ∧ d = t.d) (vals 4) ys ∧ den (G (m - 1)) c38_0 ⟨[.ref 0, .val (tabD n f), .val (rowsD n f), .val told, .no, .no, .no, .no, .no, .no], S⟩ = some (.lst ys, ⟨[.ref 0, .val (tabD n f), .val (rowsD n f), .val told, .no, .no, .no, .no, .no, .no], S'⟩) :=
    comp1 (S1 := S) Pot _ (.inl rfl) (rng_ok (k := 4) (v_con rfl) (by omega)) (by rw [vals_len]; unfold sizeLine; omega) (fun v hv S hS => by
      obtain ⟨a, b, S', hS', ha, hb, ca, cb, _, e⟩ := two (m := m - 1) (S := S) hT (by omega) hS
      have da := a.dep_cnt
      have db := b.dep_cnt
      exact ⟨_, S', hS', ⟨.nd a b, .nd (Tr.ml_ok ha) (Tr.ml_ok hb) (by omega) (by omega) (by omega), rfl⟩, v_call (a_shr rfl (a_shv rfl a_nil)) e⟩) hS
  have gx : GL xs := forall₂_right hx
  have lx : xs.length = 4 := by rw [← forall₂_len hx, vals_len]
  have g0 : exec (G (m - 1)) t38_0 ⟨[.ref 0, .val (tabD n f), .val (rowsD n f), .val told, .no, .no, .no, .no, .no, .no], S⟩ = some (.nx, ⟨[.ref 0, .val (tabD n f), .val (rowsD n f), .val told, .val (.lst (xs ++ odd8)), .no, .no, .no, .no, .no], S1⟩) :=
    x_setv (v_bin ex (v_lst (ds := odd8) (e_cons (v_con rfl) (e_cons (v_con rfl) (e_cons (v_tup e_nil (by simp)) (e_cons (v_tup2 (v_con rfl) (v_con rfl)) (e_cons (v_lst2 (v_con rfl) (v_con rfl)) (e_cons (v_tup2 (v_tup2 (v_con rfl) (v_con rfl)) (v_con rfl)) (e_cons (v_tup (e_cons (v_con rfl) (e_cons (v_tup2 (v_con rfl) (v_con rfl)) (e_cons (v_con rfl) e_nil))) (by simp)) (e_cons (v_con rfl) e_nil)))))))) (by simp [odd8])) (bApp (by rw [lx]; simp [odd8, sizeLine]))) (by simp)
  -- those about what was told
  have st : ∃ (ds : List D) (y5 y6 : Slot), GL ds ∧ exec (G (m - 1)) t38_1 ⟨[.ref 0, .val (tabD n f), .val (rowsD n f), .val told, .val (.lst (xs ++ odd8)), .no, .no, .no, .no, .no], S1⟩ = some (.nx, ⟨[.ref 0, .val (tabD n f), .val (rowsD n f), .val told, .val (.lst ds), y5, y6, .no, .no, .no], S1⟩) := by
    rcases ht with rfl | ⟨a, b, t, rfl⟩
    · exact ⟨xs ++ odd8, .no, .no, gx.app GL_odd, x_skip (v_cmp (fun _ _ _ z => by cases z) (fun _ _ _ z => by cases z) (v_var rfl) (v_con rfl) rfl)⟩
    · have oka := Tr.ml_ok t.ma
      have okb := Tr.ml_ok t.mb
      have da := t.da
      have db := t.db
      have ca := t.ca
      have cb := t.cb
      have va := sp29 (n := n) (S := S1) (m := m - 1) (by omega) t.ma (by omega) (by omega)
      have vb := sp29 (n := n) (S := S1) (m := m - 1) (by omega) t.mb (by omega) (by omega)
      have ta := sp35 (n := n) (S := S1) (m := m - 1) t.ma (by omega)
      have tb := sp35 (n := n) (S := S1) (m := m - 1) t.mb (by omega)
      obtain ⟨ra1, ra2, ra3⟩ := Tr.tru_ok t.ma
      obtain ⟨rb1, rb2, rb3⟩ := Tr.tru_ok t.mb
      have cl11 : cmpD .Lt (.int (a.cnt + b.cnt)) (.int 11) = some (.bl true) := by simp [cmpD, cmpI]; omega
      have la : bi1D .len (.lst a.vl) = some (.int a.cnt) := by rw [b1L, Tr.vl_len]
      have lb : bi1D .len (.lst b.vl) = some (.int b.cnt) := by rw [b1L, Tr.vl_len]
      let six : List D := [.tup [b.d, a.d], .tup [.tup [a.d, .int 0], b.d], .tup [a.d, a.d], .lst [a.d, b.d], .tup [a.d, .non], .tup [pairD (a, b), pairD (a, b)]]
      let two' : List D := [.tup [a.tru.d, b.d], .tup [a.d, b.tru.d]]
      have i0 : (I 0).ok := ⟨(fun _ _ z => by cases z), gd_int⟩
      have gsix : GL six := by
        refine GL.cons (t := .nd b a) (.nd okb oka (by omega) (by omega) (by omega)) (GL.cons (t := .nd (.nd a (I 0)) b) (.nd ⟨oka, i0⟩ okb (by simp [Tr.dep, I]; omega) (by omega) (by simp [Tr.cnt, I]; omega)) (GL.cons (t := .nd a a) (.nd oka oka (by omega) (by omega) (by omega)) (GL.cons (t := .lf (.lst [a.d, b.d])) (.lf (fun _ _ z => by cases z) (gd_lst (k := 4) fun d hd => ?_)) (GL.cons (t := .nd a (.lf .non)) (.nd oka ⟨(fun _ _ z => by cases z), gd_non⟩ (by omega) (by simp [Tr.dep]) (by simp [Tr.cnt]; omega)) (GL.cons (t := .nd (.nd a b) (.nd a b)) (.nd ⟨oka, okb⟩ ⟨oka, okb⟩ (by simp [Tr.dep]; omega) (by simp [Tr.dep]; omega) (by simp [Tr.cnt]; omega)) .nil)))))
        rcases List.mem_cons.mp hd with rfl | hd
        · exact (Tr.ml_gd t.ma).mono (by omega)
        · rw [List.mem_singleton] at hd; subst hd
          exact (Tr.ml_gd t.mb).mono (by omega)
      have gtwo : GL two' := GL.cons (t := .nd a.tru b) (.nd ra1 okb (by omega) (by omega) (by omega)) (GL.cons (t := .nd a b.tru) (.nd oka rb1 (by omega) (by omega) (by omega)) .nil)
      have gtold : GL [pairD (a, b)] := GL.cons (t := .nd a b) (.nd oka okb (by omega) (by omega) (by omega)) .nil
      refine ⟨xs ++ odd8 ++ [pairD (a, b)] ++ six ++ two', .val a.d, .val b.d, (((gx.app GL_odd).app gtold).app gsix).app gtwo, ?_⟩
      have q0 : exec (G (m - 1)) u38_0 ⟨[.ref 0, .val (tabD n f), .val (rowsD n f), .val (pairD (a, b)), .val (.lst (xs ++ odd8)), .no, .no, .no, .no, .no], S1⟩ = some (.nx, ⟨[.ref 0, .val (tabD n f), .val (rowsD n f), .val (pairD (a, b)), .val (.lst (xs ++ odd8)), .val a.d, .val b.d, .no, .no, .no], S1⟩) := x_asg (v_var rfl) rfl
      have q1 : exec (G (m - 1)) u38_1 ⟨[.ref 0, .val (tabD n f), .val (rowsD n f), .val (pairD (a, b)), .val (.lst (xs ++ odd8)), .val a.d, .val b.d, .no, .no, .no], S1⟩ = some (.nx, ⟨[.ref 0, .val (tabD n f), .val (rowsD n f), .val (pairD (a, b)), .val (.lst (xs ++ odd8 ++ [pairD (a, b)])), .val a.d, .val b.d, .no, .no, .no], S1⟩) :=
        x_setv (v_bin (v_var rfl) (v_lst1 (v_var rfl)) (bApp (by rw [List.length_append, lx]; simp [odd8, sizeLine]))) (by simp)
      have q2 : exec (G (m - 1)) u38_2 ⟨[.ref 0, .val (tabD n f), .val (rowsD n f), .val (pairD (a, b)), .val (.lst (xs ++ odd8 ++ [pairD (a, b)])), .val a.d, .val b.d, .no, .no, .no], S1⟩ = some (.nx, ⟨[.ref 0, .val (tabD n f), .val (rowsD n f), .val (pairD (a, b)), .val (.lst (xs ++ odd8 ++ [pairD (a, b)] ++ six)), .val a.d, .val b.d, .no, .no, .no], S1⟩) :=
        x_setv (v_bin (v_var rfl) (v_lst (e_cons (v_tup2 (v_var rfl) (v_var rfl)) (e_cons (v_tup2 (v_tup2 (v_var rfl) (v_con rfl)) (v_var rfl)) (e_cons (v_tup2 (v_var rfl) (v_var rfl)) (e_cons (v_lst2 (v_var rfl) (v_var rfl)) (e_cons (v_tup2 (v_var rfl) (v_con rfl)) (e_cons (v_tup2 (v_var rfl) (v_var rfl)) e_nil)))))) (by simp)) (bApp (by rw [List.length_append, List.length_append, lx]; simp [odd8, sizeLine]))) (by simp)
      have q3 : exec (G (m - 1)) u38_3 ⟨[.ref 0, .val (tabD n f), .val (rowsD n f), .val (pairD (a, b)), .val (.lst (xs ++ odd8 ++ [pairD (a, b)] ++ six)), .val a.d, .val b.d, .no, .no, .no], S1⟩ = some (.nx, ⟨[.ref 0, .val (tabD n f), .val (rowsD n f), .val (pairD (a, b)), .val (.lst (xs ++ odd8 ++ [pairD (a, b)] ++ six ++ two')), .val a.d, .val b.d, .no, .no, .no], S1⟩) :=
        x_setv (v_bin (v_var rfl) (v_lst2 (v_tup2 (v_call (a_shv rfl a_nil) ta) (v_var rfl)) (v_tup2 (v_var rfl) (v_call (a_shv rfl a_nil) tb))) (bApp (by rw [List.length_append, List.length_append, List.length_append, lx]; simp [odd8, six, sizeLine]))) (by simp)
      have q4 : exec (G (m - 1)) u38_4 ⟨[.ref 0, .val (tabD n f), .val (rowsD n f), .val (pairD (a, b)), .val (.lst (xs ++ odd8 ++ [pairD (a, b)])), .val a.d, .val b.d, .no, .no, .no], S1⟩ = some (.nx, ⟨[.ref 0, .val (tabD n f), .val (rowsD n f), .val (pairD (a, b)), .val (.lst (xs ++ odd8 ++ [pairD (a, b)] ++ six ++ two')), .val a.d, .val b.d, .no, .no, .no], S1⟩) := by
        refine x_iff_t (v_cmp (fun _ _ _ z => by cases z) (fun _ _ _ z => by cases z) (v_bin (v_bi1 (fun _ _ _ z => by cases z) (v_call (a_shv rfl a_nil) va) la) (v_bi1 (fun _ _ _ z => by cases z) (v_call (a_shv rfl a_nil) vb) lb) bAdd) (v_con rfl) cl11) ?_
        unfold s38_0
        rw [r_nx q2, r_nx q3]
        rfl
      refine x_iff_t (v_cmp (fun _ _ _ z => by cases z) (fun _ _ _ z => by cases z) (v_var rfl) (v_con rfl) rfl) ?_
      unfold s38_1
      rw [r_nx q0, r_nx q1, r_nx q4]
      rfl
  obtain ⟨ds, y5, y6, gds, g1⟩ := st
  obtain ⟨y7, y8, e2⟩ := judge_loop (S := S1) (m := m - 1) hT (by omega) (y0 := .ref 0) (y3 := .val told) (y4 := .val (.lst ds)) (y5 := y5) (y6 := y6) (y9 := .no) gds (y7 := .no) (y8 := .no) (x := "_law_thing") (p := P 204 8 18)
  have g2 : exec (G (m - 1)) t38_2 ⟨[.ref 0, .val (tabD n f), .val (rowsD n f), .val told, .val (.lst ds), y5, y6, .no, .no, .no], S1⟩ = some (.nx, ⟨[.ref 0, .val (tabD n f), .val (rowsD n f), .val told, .val (.lst ds), y5, y6, y7, y8, .no], S1⟩) := by
    rw [t38_2, exec, bnd_ok (it_l rfl)]
    exact e2
  refine ⟨S1, hS1, ?_⟩
  refine call_ok (d := d38) rfl (by omega) rfl (L' := [.ref 0, .val (tabD n f), .val (rowsD n f), .val told, .val (.lst ds), y5, y6, y7, y8, .no]) ?_
  show execs _ (.cons t38_0 (.cons t38_1 (.cons t38_2 (.cons t38_3 .nil)))) ⟨[.ref 0, .val (tabD n f), .val (rowsD n f), .val told, .no, .no, .no, .no, .no, .no], S⟩ = _
  rw [r_nx g0, r_nx g1, r_nx g2]
  exact r_rt (x_ret (v_con rfl))
end K41
end Dm

namespace Dm
open PySem L2
theorem den_or {Γ : Env} {e e2 : E} {p : Pos} : den Γ (.bop .Or e (.cons e2 .nil) p) = bnd (den Γ e) fun x => bnd (ofO x.tr) fun b => if b then ret x else den Γ e2 := by
  rw [den, denB]
  rfl
section
variable {Γ : Env} {e e2 : E} {p : Pos} {s s1 : St} {r : Option (D × St)}
theorem v_or_f (h : den Γ e s = some (.bl false, s1)) (h2 : den Γ e2 s1 = r) : den Γ (.bop .Or e (.cons e2 .nil) p) s = r := by
  rw [den_or, bnd_ok h]; exact h2
theorem v_and_t (h : den Γ e s = some (.bl true, s1)) (h2 : den Γ e2 s1 = r) : den Γ (.bop .And e (.cons e2 .nil) p) s = r := by
  rw [den_and, bnd_ok h]; exact h2
theorem v_and_f (h : den Γ e s = some (.bl false, s1)) : den Γ (.bop .And e (.cons e2 .nil) p) s = some (.bl false, s1) := by
  rw [den_and, bnd_ok h]; rfl
end
theorem ne_bl {b : Bool} : cmpD .NotEq (.bl b) (.bl b) = some (.bl false) := by
  simp only [cmpD, eq_bl, Option.map_some]; simp
theorem eq_blb {b : Bool} : cmpD .Eq (.bl b) (.bl b) = some (.bl true) := by
  simp only [cmpD, eq_bl, Option.map_some]; simp
namespace K41
variable {n m : Nat} {S : List OD} {f : Nat → Nat → Nat}
theorem v_eqO {Γ : Env} {a b : E} {p : Pos} {s s1 s2 : St} (h1 : den Γ a s = some (tabD n f, s1)) (h2 : den Γ b s1 = some (tabD n f, s2)) (h : Γ.call 7 [.val (tabD n f), .val (tabD n f)] s2.S = some (.leaf (.bl true), s2.S)) : den Γ (.eqO 0 7 a b p) s = some (.bl true, s2) := by
  rw [den, bnd_ok h1, bnd_ok h2]
  unfold tabD at h ⊢
  unfold eqM
  simp only [and_self, if_true]
  rw [bnd_ok (show doCall Γ 7 _ s2 = some (.leaf (.bl true), s2) by unfold doCall; rw [h])]
  rfl
theorem eq_nat {a b : Nat} : cmpD .Eq (.int a) (.int b) = some (.bl (a == b)) := by
  simp only [cmpD, eq_int, Option.map_some, int_beq]
/-! ### names -/
theorem first_int {c : Nat} : ∀ {ns : List Nat} {k : Nat}, c ∈ ns → firstEq (.int c) k (ns.map fun (x : Nat) => D.int x) = some (k + ns.idxOf c)
  | [], _, h => by cases h
  | a :: ns, k, h => by
    have e0 : PyData.eqv (D.int a).py (D.int c).py = (a == c) := by
      simp only [D.py, PyData.eqv, int_beq]
    rw [List.map_cons, firstEq, e0, List.idxOf_cons]
    by_cases e : a = c
    · subst e; simp
    · have : (a == c) = false := by simpa using e
      rw [this]
      rcases List.mem_cons.mp h with h | h
      · exact absurd h.symm e
      · simp only [Bool.false_eq_true, if_false, cond_false]
        rw [first_int h]
        congr 1
        omega
theorem idx_int {ns : List Nat} {c : Nat} (h : c ∈ ns) : idxD (.lst (ns.map fun (x : Nat) => D.int x)) (.int c) = some (.int (ns.idxOf c : Nat)) := by
  have hg : gd 1 (.lst (ns.map fun (x : Nat) => D.int x)) := gd_lst fun d hd => by
    obtain ⟨x, _, rfl⟩ := List.mem_map.mp hd
    exact gd_int
  unfold idxD
  simp only []
  rw [(gd_int (k := 0)).shaped (by omega), hg.shaped (by omega), first_int h]
  simp
theorem perm_vals {ys : List D} (h : ys.Perm (vals n)) : ∃ ns : List Nat, ys = ns.map (fun (x : Nat) => D.int x) ∧ ns.Perm (List.range n) := by
  refine ⟨ys.map num, ?_, ?_⟩
  · rw [List.map_map]
    conv => lhs; rw [← List.map_id ys]
    refine List.map_congr_left fun y hy => ?_
    obtain ⟨k, _, rfl⟩ := vals_mem (h.mem_iff.mp hy)
    simp [num]
  · have := h.map num
    have e : (vals n).map num = List.range n := by
      unfold vals
      rw [List.map_map]
      conv => rhs; rw [← List.map_id (List.range n)]
      exact List.map_congr_left fun k _ => by simp [num]
    rw [e] at this
    exact this
theorem names_otw {ns : List Nat} (h : ns.Perm (List.range n)) : Otw n (fun y => ns.getD y 0) (fun x => ns.idxOf x) := by
  have hl : ns.length = n := by rw [h.length_eq, List.length_range]
  have hnd : ns.Nodup := h.nodup_iff.mpr List.nodup_range
  have hm : ∀ x, x ∈ ns ↔ x < n := fun x => by rw [h.mem_iff, List.mem_range]
  have hi : ∀ x, x < n → ns.idxOf x < ns.length := fun x hx => List.idxOf_lt_length_of_mem ((hm x).mpr hx)
  refine ⟨fun y hy => ?_, fun x hx => by rw [← hl]; exact hi x hx, fun x hx => ?_, fun y hy => ?_⟩
  · have hy' : y < ns.length := by rw [hl]; exact hy
    exact (hm _).mp (getD_mem hy')
  · show ns.getD (ns.idxOf x) 0 = x
    have := hi x hx
    simp only [List.getD_eq_getElem?_getD, List.getElem?_eq_getElem this, Option.getD_some]
    exact List.getElem_idxOf this
  · have hy' : y < ns.length := by rw [hl]; exact hy
    show ns.idxOf (ns.getD y 0) = y
    simp only [List.getD_eq_getElem?_getD, List.getElem?_eq_getElem hy', Option.getD_some]
    exact hnd.idxOf_getElem y hy'
end K41
end Dm

namespace Dm
open PySem L2
theorem v_notT {Γ : Env} {a : E} {p : Pos} {s s1 : St} (h : den Γ a s = some (.bl true, s1)) : den Γ (.una .Not a p) s = some (.bl false, s1) := v_not h
namespace K41
variable {n m : Nat} {S : List OD} {f : Nat → Nat → Nat}
theorem pt_some {p : Tr × Tr} (h : pt n f = some p) : p ∈ known n ∧ (p.1.res f == p.2.res f) = false := by
  unfold pt at h
  refine ⟨List.mem_of_find?_eq_some h, ?_⟩
  have := List.find?_some h
  simpa using this
theorem pt_isP {a b : Tr} (h : pt n f = some (a, b)) : isP n f (.nd a b) = true := by
  obtain ⟨h1, h2⟩ := pt_some h
  obtain ⟨q1, q2, _, _, q5, q6, q7⟩ := known_ok h1
  simp only at q1 q2 q5 q6 q7 h2
  have c1 : decide (a.cnt ≤ 40) = true := decide_eq_true (by omega)
  have c2 : decide (b.cnt ≤ 40) = true := decide_eq_true (by omega)
  have c3 : (ssI (intsD a.lv) == ssI (intsD b.lv)) = true := by rw [q7]; exact beq_self_eq_true _
  rw [isP, q1, q2, c1, c2, c3, h2]
  rfl
theorem told_ok : ptD n f = .non ∨ ∃ a b, Told n a b ∧ ptD n f = pairD (a, b) := by
  unfold ptD
  cases h : pt n f with
  | none => exact .inl rfl
  | some p =>
    obtain ⟨a, b⟩ := p
    obtain ⟨q1, q2, q3, q4, q5, q6, _⟩ := known_ok (pt_some h).1
    exact .inr ⟨a, b, ⟨q1, q2, q3, q4, q5, q6⟩, rfl⟩
theorem Pot.one (h : Pot S) : ∃ o, S = [o] := by obtain ⟨a, b, rfl, _⟩ := h; exact ⟨_, rfl⟩
theorem right (hm : 90 ≤ m) (hS : Pot S) : ∃ S', Pot S' ∧ cl m 39 [.ref 0] S = some (.leaf (.bl true), S') := by
  obtain ⟨n, f, S1, hT, hS1, e1⟩ := table (m := m - 1) (by omega) hS
  have h7 := hT.most
  have h1 := hT.pos
  obtain ⟨o1, ho1⟩ := hS1.one
  have g0 : exec (G (m - 1)) t39_0 ⟨[.ref 0, .no, .no, .no, .no, .no, .no, .no, .no, .no, .no, .no], S⟩ = some (.nx, ⟨[.ref 0, .val (rowsD n f), .no, .no, .no, .no, .no, .no, .no, .no, .no, .no], S1⟩) :=
    x_setv (v_call (a_shr rfl a_nil) e1) (by simp)
  have e28 := sp28 (m := m - 1) (S := S1) hT (by omega)
  rw [lawM hT] at e28
  have g1 : exec (G (m - 1)) t39_1 ⟨[.ref 0, .val (rowsD n f), .no, .no, .no, .no, .no, .no, .no, .no, .no, .no], S1⟩ = some (.nx, ⟨[.ref 0, .val (rowsD n f), .val (tabD n f), .val (.bl (mB n f)), .no, .no, .no, .no, .no, .no, .no, .no], S1⟩) := by
    have hmk := new_tab (m := m - 1) hT (by omega) (o := o1) (L := [.ref 0, .val (rowsD n f), .no, .no, .no, .no, .no, .no, .no, .no, .no, .no])
    rw [← ho1] at hmk
    exact x_par2 (oe_v (v_new (a_shv rfl a_nil) hmk)) (oe_v (v_call (a_shv rfl a_nil) e28)) (by simp) (by simp)
  have e17 := sp17 (m := m - 1) (S := S1) hT (by omega)
  have e19 := sp19 (m := m - 1) (S := S1) hT (by omega)
  have g2 : exec (G (m - 1)) t39_2 ⟨[.ref 0, .val (rowsD n f), .val (tabD n f), .val (.bl (mB n f)), .no, .no, .no, .no, .no, .no, .no, .no], S1⟩ = some (.nx, ⟨[.ref 0, .val (rowsD n f), .val (tabD n f), .val (.bl (mB n f)), .val (ptD n f), .no, .no, .no, .no, .no, .no, .no], S1⟩) :=
    x_setv (v_call (a_shv rfl a_nil) e17) (by simp)
  have g3 : exec (G (m - 1)) t39_3 ⟨[.ref 0, .val (rowsD n f), .val (tabD n f), .val (.bl (mB n f)), .val (ptD n f), .no, .no, .no, .no, .no, .no, .no], S1⟩ = some (.nx, ⟨[.ref 0, .val (rowsD n f), .val (tabD n f), .val (.bl (mB n f)), .val (ptD n f), .no, .no, .no, .no, .no, .no, .no], S1⟩) :=
    x_skip (v_cmp (fun _ _ _ z => by cases z) (fun _ _ _ z => by cases z) (v_lst2 (v_call (a_shv rfl a_nil) e19) (v_callK1 (v_var rfl) e19)) (v_lst2 (v_var rfl) (v_var rfl)) ne_bl2)
  have g4 : exec (G (m - 1)) t39_4 ⟨[.ref 0, .val (rowsD n f), .val (tabD n f), .val (.bl (mB n f)), .val (ptD n f), .no, .no, .no, .no, .no, .no, .no], S1⟩ = some (.nx, ⟨[.ref 0, .val (rowsD n f), .val (tabD n f), .val (.bl (mB n f)), .val (ptD n f), .no, .no, .no, .no, .no, .no, .no], S1⟩) :=
    x_skip (v_or_f (v_cmp (fun _ _ _ z => by cases z) (fun _ _ _ z => by cases z) (v_cmp (fun _ _ _ z => by cases z) (fun _ _ _ z => by cases z) (v_var rfl) (v_con rfl) is_non) (v_var rfl) ne_bl)
      (v_cmp (fun _ _ _ z => by cases z) (fun _ _ _ z => by cases z) (v_cmp (fun _ _ _ z => by cases z) (fun _ _ _ z => by cases z) (v_callK1 (v_var rfl) e17) (v_con rfl) is_non) (v_var rfl) ne_bl))
  have g5 : exec (G (m - 1)) t39_5 ⟨[.ref 0, .val (rowsD n f), .val (tabD n f), .val (.bl (mB n f)), .val (ptD n f), .no, .no, .no, .no, .no, .no, .no], S1⟩ = some (.nx, ⟨[.ref 0, .val (rowsD n f), .val (tabD n f), .val (.bl (mB n f)), .val (ptD n f), .no, .no, .no, .no, .no, .no, .no], S1⟩) := by
    cases hp : pt n f with
    | none =>
      have e : ptD n f = .non := by unfold ptD; rw [hp]
      rw [e]
      exact x_skip (v_and_f (v_cmp (fun _ _ _ z => by cases z) (fun _ _ _ z => by cases z) (v_var rfl) (v_con rfl) rfl))
    | some p =>
      obtain ⟨a, b⟩ := p
      have e : ptD n f = (Tr.nd a b).d := by unfold ptD; rw [hp]; rfl
      obtain ⟨k1, k2⟩ := pt_some hp
      obtain ⟨q1, q2, q3, q4, q5, q6, _⟩ := known_ok k1
      simp only at q1 q2 q3 q4 q5 q6 k2
      have e32 := sp32 (m := m - 1) (S := S1) hT (t := .nd a b) ⟨Tr.ml_ok q1, Tr.ml_ok q2⟩ (by rw [Tr.dep]; omega) (by rw [Tr.cnt]; omega) (by rw [Tr.dep]; omega)
      rw [pt_isP hp] at e32
      have ra := sp15 (m := m - 1) (S := S1) hT q1 (by omega) (by omega) (by omega)
      have rb := sp15 (m := m - 1) (S := S1) hT q2 (by omega) (by omega) (by omega)
      have ec := eq_nat (a := a.res f) (b := b.res f)
      rw [k2] at ec
      rw [e]
      exact x_skip (v_and_t (v_cmp (fun _ _ _ z => by cases z) (fun _ _ _ z => by cases z) (v_var rfl) (v_con rfl) rfl)
        (v_or_f (v_notT (v_call (a_shv rfl (a_shv rfl a_nil)) e32)) (v_cmp (fun _ _ _ z => by cases z) (fun _ _ _ z => by cases z) (v_call (a_shv rfl (a_val (v_sub (fun _ _ _ z => by cases z) (v_var rfl) (v_con rfl) rfl) a_nil)) ra) (v_call (a_shv rfl (a_val (v_sub (fun _ _ _ z => by cases z) (v_var rfl) (v_con rfl) rfl) a_nil)) rb) ec)))
  obtain ⟨S2, hS2, e38⟩ := judged (m := m - 1) (S := S1) hT (by omega) told_ok hS1
  obtain ⟨S3, hS3, e37⟩ := long_right (m := m - 1) (S := S2) (by omega) hS2
  have g6 : exec (G (m - 1)) t39_6 ⟨[.ref 0, .val (rowsD n f), .val (tabD n f), .val (.bl (mB n f)), .val (ptD n f), .no, .no, .no, .no, .no, .no, .no], S1⟩ = some (.nx, ⟨[.ref 0, .val (rowsD n f), .val (tabD n f), .val (.bl (mB n f)), .val (ptD n f), .no, .no, .no, .no, .no, .no, .no], S3⟩) :=
    x_skip (v_or_f (v_notT (v_call (a_shr rfl (a_shv rfl (a_shv rfl (a_shv rfl a_nil)))) e38)) (v_notT (v_call (a_shr rfl a_nil) e37)))
  -- drawn melts of the same values
  obtain ⟨s', e7, y5, y6, y7, S4, rfl, hS4⟩ := for_inv (t := .nm 5 "_law_turn" (P 221 8 17)) (body := execs (G (m - 1)) s39_5) (items := vals 4) (fun s => ∃ y5 y6 y7 S, s = ⟨[.ref 0, .val (rowsD n f), .val (tabD n f), .val (.bl (mB n f)), .val (ptD n f), y5, y6, y7, .no, .no, .no, .no], S⟩ ∧ Pot S) (fun v hv s hs => by
    obtain ⟨y5, y6, y7, S, rfl, hS⟩ := hs
    obtain ⟨a, b, T, hT', ma, mb, ca, cb, hab, e34⟩ := two (m := m - 1) (S := S) hT (by omega) hS
    have da := a.dep_cnt
    have db := b.dep_cnt
    refine ⟨⟨[.ref 0, .val (rowsD n f), .val (tabD n f), .val (.bl (mB n f)), .val (ptD n f), .val v, y6, y7, .no, .no, .no, .no], S⟩, ⟨[.ref 0, .val (rowsD n f), .val (tabD n f), .val (.bl (mB n f)), .val (ptD n f), .val v, .val a.d, .val b.d, .no, .no, .no, .no], T⟩, rfl, ?_, _, _, _, _, rfl, hT'⟩
    have q1 : exec (G (m - 1)) u39_4 ⟨[.ref 0, .val (rowsD n f), .val (tabD n f), .val (.bl (mB n f)), .val (ptD n f), .val v, y6, y7, .no, .no, .no, .no], S⟩ = some (.nx, ⟨[.ref 0, .val (rowsD n f), .val (tabD n f), .val (.bl (mB n f)), .val (ptD n f), .val v, .val a.d, .val b.d, .no, .no, .no, .no], T⟩) :=
      x_asg (v_call (a_shr rfl (a_shv rfl a_nil)) e34) rfl
    have ra := sp15 (m := m - 1) (S := T) hT ma (by omega) (by omega) (by omega)
    have rb := sp15 (m := m - 1) (S := T) hT mb (by omega) (by omega) (by omega)
    have q2 : exec (G (m - 1)) u39_6 ⟨[.ref 0, .val (rowsD n f), .val (tabD n f), .val (.bl (mB n f)), .val (ptD n f), .val v, .val a.d, .val b.d, .no, .no, .no, .no], T⟩ = some (.nx, ⟨[.ref 0, .val (rowsD n f), .val (tabD n f), .val (.bl (mB n f)), .val (ptD n f), .val v, .val a.d, .val b.d, .no, .no, .no, .no], T⟩) := by
      cases hb : mB n f with
      | false => exact x_skip (v_and_f (v_var rfl))
      | true =>
        have hr := res_ext hT (mB_iff.mp hb) ma mb hab
        have ec := ne_int (a := a.res f) (b := b.res f)
        rw [hr, beq_self_eq_true] at ec
        rw [hr] at ra
        exact x_skip (v_and_t (v_var rfl) (v_cmp (fun _ _ _ z => by cases z) (fun _ _ _ z => by cases z) (v_call (a_shv rfl (a_shv rfl a_nil)) ra) (v_call (a_shv rfl (a_shv rfl a_nil)) rb) ec))
    unfold s39_5
    rw [r_nx q1, r_nx q2]
    rfl) (s := ⟨[.ref 0, .val (rowsD n f), .val (tabD n f), .val (.bl (mB n f)), .val (ptD n f), .no, .no, .no, .no, .no, .no, .no], S3⟩) ⟨_, _, _, _, rfl, hS3⟩
  have g7 : exec (G (m - 1)) t39_7 ⟨[.ref 0, .val (rowsD n f), .val (tabD n f), .val (.bl (mB n f)), .val (ptD n f), .no, .no, .no, .no, .no, .no, .no], S3⟩ = some (.nx, ⟨[.ref 0, .val (rowsD n f), .val (tabD n f), .val (.bl (mB n f)), .val (ptD n f), y5, y6, y7, .no, .no, .no, .no], S4⟩) := by
    rw [t39_7, exec, bnd_ok (rng_ok (k := 4) (v_con rfl) (by omega))]
    exact e7
  -- values called otherwise
  obtain ⟨ys, S5, hS5, py, e24⟩ := mixed (n := m - 1) (S := S4) (by omega) (xs := vals n) (by rw [vals_len]; omega) (fun d hd => by obtain ⟨k, _, rfl⟩ := vals_mem hd; exact gd_int) hS4
  obtain ⟨ns, rfl, pn⟩ := perm_vals py
  have ot := names_otw pn
  have el : bi1D .len (rowsD n f) = some (.int n) := by unfold rowsD; rw [b1L, rowsL_len]
  have g8 : exec (G (m - 1)) t39_8 ⟨[.ref 0, .val (rowsD n f), .val (tabD n f), .val (.bl (mB n f)), .val (ptD n f), y5, y6, y7, .no, .no, .no, .no], S4⟩ = some (.nx, ⟨[.ref 0, .val (rowsD n f), .val (tabD n f), .val (.bl (mB n f)), .val (ptD n f), y5, y6, y7, .val (.lst (ns.map fun (x : Nat) => D.int x)), .no, .no, .no], S5⟩) :=
    x_setv (v_call (a_shr rfl (a_val (v_lrng (v_bi1 (fun _ _ _ z => by cases z) (v_var rfl) el) (lrng_ok h7)) a_nil)) e24) (by simp)
  let g : Nat → Nat := fun y => ns.getD y 0
  let h : Nat → Nat := fun x => ns.idxOf x
  let f' : Nat → Nat → Nat := fun x y => g (f (h x) (h y))
  have hT' : Tb n f' := turn_tb hT ot
  have hm' : mB n f' = mB n f := mB_turn hT ot
  have hl : ns.length = n := by rw [pn.length_eq, List.length_range]
  have hin : ∀ x, x < n → x ∈ ns := fun x hx => by rw [pn.mem_iff, List.mem_range]; exact hx
  have ec0 : ∀ (x : Nat), x < n → den (G (m - 1)) c39_0 ⟨[.ref 0, .val (rowsD n f), .val (tabD n f), .val (.bl (mB n f)), .val (ptD n f), y5, y6, y7, .val (.lst (ns.map fun (x : Nat) => D.int x)), .no, .val (.int x), .no], S5⟩ = some (.lst (rowL n (f' x)), ⟨[.ref 0, .val (rowsD n f), .val (tabD n f), .val (.bl (mB n f)), .val (ptD n f), y5, y6, y7, .val (.lst (ns.map fun (x : Nat) => D.int x)), .no, .val (.int x), .no], S5⟩) := by
    intro x hx
    have key : den (G (m - 1)) c39_0 ⟨[.ref 0, .val (rowsD n f), .val (tabD n f), .val (.bl (mB n f)), .val (ptD n f), y5, y6, y7, .val (.lst (ns.map fun (x : Nat) => D.int x)), .no, .val (.int x), .no], S5⟩ = some (.lst ((vals n).map fun d => D.int (f' x (num d))), ⟨[.ref 0, .val (rowsD n f), .val (tabD n f), .val (.bl (mB n f)), .val (ptD n f), y5, y6, y7, .val (.lst (ns.map fun (x : Nat) => D.int x)), .no, .val (.int x), .no], S5⟩) := by
      refine comp1p _ (.inl rfl) (rng_ok (v_bi1 (fun _ _ _ z => by cases z) (v_var rfl) el) (by omega)) (by rw [vals_len]; unfold sizeLine; omega) fun v hv => ?_
      obtain ⟨y, hy, rfl⟩ := vals_mem hv
      have i1 := idx_int (hin x hx)
      have i2 := idx_int (hin y hy)
      have i3 := rx hT (ot.lh x hx)
      have i4 := ry (g := f (ns.idxOf x)) (ot.lh y hy)
      have hlt : f (ns.idxOf x) (ns.idxOf y) < ns.length := by rw [hl]; exact hT.in' _ (ot.lh x hx) _ (ot.lh y hy)
      have i5 := ix_l (xs := ns.map fun (x : Nat) => D.int x) (k := f (ns.idxOf x) (ns.idxOf y)) (d := .int (f' x y)) (by simp [f', g, h, hlt])
      have hn : num (.int y) = y := by simp [num]
      rw [hn]
      exact v_sub (fun _ _ _ z => by cases z) (v_var rfl) (v_sub (fun _ _ _ z => by cases z) (v_sub (fun _ _ _ z => by cases z) (v_var rfl) (v_idx (v_var rfl) (v_var rfl) i1) i3) (v_idx (v_var rfl) (v_var rfl) i2) i4) i5
    have e : (vals n).map (fun d => D.int (f' x (num d))) = rowL n (f' x) := by
      unfold vals rowL
      rw [List.map_map]
      exact List.map_congr_left fun y _ => by simp [num]
    rw [e] at key
    exact key
  have ec1 : den (G (m - 1)) c39_1 ⟨[.ref 0, .val (rowsD n f), .val (tabD n f), .val (.bl (mB n f)), .val (ptD n f), y5, y6, y7, .val (.lst (ns.map fun (x : Nat) => D.int x)), .no, .no, .no], S5⟩ = some (rowsD n f', ⟨[.ref 0, .val (rowsD n f), .val (tabD n f), .val (.bl (mB n f)), .val (ptD n f), y5, y6, y7, .val (.lst (ns.map fun (x : Nat) => D.int x)), .no, .no, .no], S5⟩) := by
    have key : den (G (m - 1)) c39_1 ⟨[.ref 0, .val (rowsD n f), .val (tabD n f), .val (.bl (mB n f)), .val (ptD n f), y5, y6, y7, .val (.lst (ns.map fun (x : Nat) => D.int x)), .no, .no, .no], S5⟩ = some (.lst ((vals n).map fun d => D.lst (rowL n (f' (num d)))), ⟨[.ref 0, .val (rowsD n f), .val (tabD n f), .val (.bl (mB n f)), .val (ptD n f), y5, y6, y7, .val (.lst (ns.map fun (x : Nat) => D.int x)), .no, .no, .no], S5⟩) := by
      refine comp1p _ (.inl rfl) (rng_ok (v_bi1 (fun _ _ _ z => by cases z) (v_var rfl) el) (by omega)) (by rw [vals_len]; unfold sizeLine; omega) fun v hv => ?_
      obtain ⟨x, hx, rfl⟩ := vals_mem hv
      have hn : num (.int x) = x := by simp [num]
      rw [hn]
      exact ec0 x hx
    have e : (vals n).map (fun d => D.lst (rowL n (f' (num d)))) = rowsL n f' := by
      unfold vals rowsL
      rw [List.map_map]
      exact List.map_congr_left fun y _ => by simp [num]
    rw [e] at key
    exact key
  have g9 : exec (G (m - 1)) t39_9 ⟨[.ref 0, .val (rowsD n f), .val (tabD n f), .val (.bl (mB n f)), .val (ptD n f), y5, y6, y7, .val (.lst (ns.map fun (x : Nat) => D.int x)), .no, .no, .no], S5⟩ = some (.nx, ⟨[.ref 0, .val (rowsD n f), .val (tabD n f), .val (.bl (mB n f)), .val (ptD n f), y5, y6, y7, .val (.lst (ns.map fun (x : Nat) => D.int x)), .val (rowsD n f'), .no, .no], S5⟩) :=
    x_setv ec1 (by simp)
  obtain ⟨o5, ho5⟩ := hS5.one
  have mk1 := new_tab (m := m - 1) hT' (by omega) (o := o5) (L := [.ref 0, .val (rowsD n f), .val (tabD n f), .val (.bl (mB n f)), .val (ptD n f), y5, y6, y7, .val (.lst (ns.map fun (x : Nat) => D.int x)), .val (rowsD n f'), .no, .no])
  have mk2 := new_tab (m := m - 1) hT (by omega) (o := o5) (L := [.ref 0, .val (rowsD n f), .val (tabD n f), .val (.bl (mB n f)), .val (ptD n f), y5, y6, y7, .val (.lst (ns.map fun (x : Nat) => D.int x)), .val (rowsD n f'), .no, .no])
  rw [← ho5] at mk1 mk2
  have e19' := sp19 (m := m - 1) (S := S5) hT' (by omega)
  rw [hm'] at e19'
  have e7' := sp7 (m := m - 1) (S := S5) (n := n) (f := f) (by omega)
  refine ⟨S5, hS5, ?_⟩
  refine call_ok (d := d39) rfl (by omega) rfl (L' := [.ref 0, .val (rowsD n f), .val (tabD n f), .val (.bl (mB n f)), .val (ptD n f), y5, y6, y7, .val (.lst (ns.map fun (x : Nat) => D.int x)), .val (rowsD n f'), .no, .no]) ?_
  show execs _ (.cons t39_0 (.cons t39_1 (.cons t39_2 (.cons t39_3 (.cons t39_4 (.cons t39_5 (.cons t39_6 (.cons t39_7 (.cons t39_8 (.cons t39_9 (.cons t39_10 .nil))))))))))) ⟨[.ref 0, .no, .no, .no, .no, .no, .no, .no, .no, .no, .no, .no], S⟩ = _
  rw [r_nx g0, r_nx g1, r_nx g2, r_nx g3, r_nx g4, r_nx g5, r_nx g6, r_nx g7, r_nx g8, r_nx g9]
  exact r_rt (x_ret (v_and_t (v_cmp (fun _ _ _ z => by cases z) (fun _ _ _ z => by cases z) (v_call (a_val (v_new (a_shv rfl a_nil) mk1) a_nil) e19') (v_var rfl) eq_blb) (v_eqO (v_var rfl) (v_new (a_shv rfl a_nil) mk2) e7')))
theorem main (ns : List Int) : callN Pr 1000 100 40 [.val (.scr ns)] [] = some (.leaf (.bl true), []) := by
  let k : Nat := max 1 (min 2 ns.length)
  have hk : k ≤ 2 := by simp only [k]; omega
  have hit : ∀ {x1 x2 : Str} {p1 p2 p3 p4 p5 p6 p7 p8 p9 : Pos}, denIt (G 99) (.rng (.bi2 .max2 p1 (.con (.int 1) 0 p2) (.bi2 .min2 p3 (.con (.int 2) 0 p4) (.bi1 .len p5 (.var 0 x1 p6) p7) p8) p9) p1 p2) ⟨[.val (.scr ns), .no], []⟩ = some (vals k, ⟨[.val (.scr ns), .no], []⟩) := by
    intro x1 x2 p1 p2 p3 p4 p5 p6 p7 p8 p9
    refine rng_ok ?_ (by omega)
    have b1 : bi1D .len (.scr ns) = some (.int ns.length) := rfl
    have b2 : bi2D .min2 (.int 2) (.int ns.length) = some (.int (min 2 ns.length : Nat)) := by
      show some (D.int (if (ns.length : Int) < 2 then (ns.length : Int) else 2)) = _
      congr 2
      split <;> omega
    have b3 : bi2D .max2 (.int 1) (.int (min 2 ns.length : Nat)) = some (.int k) := by
      show some (D.int (if ((min 2 ns.length : Nat) : Int) > 1 then ((min 2 ns.length : Nat) : Int) else 1)) = _
      congr 2
      simp only [k]
      split <;> omega
    simp only [den, bnd, conD, ofO_s, ret, opn_var, readVar, List.getElem?_cons_zero, b1, b2, b3]
  have ec : den (G 99) c40_0 ⟨[.val (.scr ns), .no], []⟩ = some (.lst ((vals k).map fun _ => .bl true), ⟨[.val (.scr ns), .no], []⟩) := by
    refine comp1p _ (.inl rfl) (hit (x2 := "")) (by rw [vals_len]; unfold sizeLine; omega) fun v hv => ?_
    obtain ⟨j, hj, rfl⟩ := vals_mem hv
    obtain ⟨a, b, ha, hb, hb2, ep⟩ := pot (n := 99) (S := []) (by omega) (ns := ns) (k := j) (by omega)
    obtain ⟨S', hS', er⟩ := right (m := 99) (S := [.fl [.int a, .int b]]) (by omega) ⟨a, b, rfl, ha, hb, hb2⟩
    rw [den, bnd_ok (a_shv rfl (a_shv rfl a_nil))]
    rw [bnd_ok (show doCall (G 99) 21 _ _ = some (.fl [.int a, .int b], _) from by unfold doCall; rw [env_call, ep])]
    unfold lend
    simp only [env_call, List.length_nil, List.nil_append, er, List.take_zero]
  refine call_ok (n := 100) (d := d40) rfl (by omega) rfl (L' := [.val (.scr ns), .no]) ?_
  exact r_rt (x_ret (v_bi1 (fun _ _ _ z => by cases z) ec (allBl_true fun d hd => by obtain ⟨_, _, rfl⟩ := List.mem_map.mp hd; rfl)))
end K41
end Dm

namespace Dm.K41
open PySem PySem.Spec PyProof.Rows L2 Dm
abbrev R : PySem.W.OpenRow := PySem.W.OpenLaw.row PySem.Challenge.rw_oneshelf_k41_whole_melting_or_parted
abbrev hk : PySem.W.Hook := He.hookX 4 Pr.faH Pr.fnH [] [] Pr.exH
def ob (s : PySem.W.SharedT) : He.AlX := He.obsX 4 Pr.faH Pr.fnH [] [] Pr.exH (HandSHeadRun.getT s)
theorem ob_eq (s : PySem.W.SharedT) : ob s = hk.obs s.abs := He.obsX_eq (HandSHeadRun.getT_eq s)
def loose : List Str := (["is_integer", "is_list", "ShelfError", "InvalidTable", "InvalidValue", "InvalidMelt", "MOST_VALUES", "MOST_IN_MELT", "is_below", "Table", "is_value", "want_value", "is_pair", "leaves_of", "is_melt", "result_of", "result", "known_pairs", "parting", "do_melt", "melts", "is_parting", "_law_pot", "_law_draw", "_law_pick", "_law_mixed", "_law_lots", "_law_melting", "_law_table", "_law_melts", "_law_values", "_law_result", "_law_grouped", "_law_is_parting", "_law_is_melt", "_law_two", "_law_truths", "_law_even", "_law_long_right", "_law_judged_right", "_law_right"] : List String).map Str.ofString
theorem run (w : World) : HandSHeadRun.RunEq R (PySem.W.view R.prog [45]) hk ob 3000 loose w := by
  intro os
  kernel_rfl
theorem dbg1 : (He.obsX 4 Pr.faH Pr.fnH [] [] Pr.exH = He.obsX 4 Pr.faH Pr.fnH [] [] Pr.exH) := rfl
theorem okH : Pr.okH = true := by decide +kernel
end Dm.K41

open PySem PySem.W PySem.Calls PyProof.Rows
theorem k41_end (main : ∀ ns : List Int, ns.length ≤ 63 → Dm.callN Dm.K41.Pr 1000 100 40 [.val (.scr ns)] [] = some (.leaf (.bl true), [])) : PySem.Challenge.rw_oneshelf_k41_whole_melting_or_parted.Holds := by
  w_on; o_law
  refine HandSHeadRun.head_any (r := OpenLaw.row PySem.Challenge.rw_oneshelf_k41_whole_melting_or_parted) (q := view (OpenLaw.row PySem.Challenge.rw_oneshelf_k41_whole_melting_or_parted).prog [45]) (H := Dm.K41.hk) (ob := Dm.K41.ob) (M := 3000) (loose := Dm.K41.loose) (d := HandSHeadRun.topDef (OpenLaw.row PySem.Challenge.rw_oneshelf_k41_whole_melting_or_parted).prog 45) (kwd := []) Dm.K41.ob_eq
    (by kernel_rfl) (fun s => by kernel_rfl) Dm.K41.run (by kernel_rfl) (by kernel_rfl) (by kernel_rfl) (by rfl) (by first | assumption | decide +kernel) (by decide +kernel) ⟨rfl, rfl, rfl, rfl, rfl, by decide +kernel⟩ ?hw ?hc
  case hw => w_witness2
  case hc =>
    refine L2.walk_ofE (l := PySem.Challenge.rw_oneshelf_k41_whole_melting_or_parted) (n := 63) (k := 2 * 100) (x := "_law_script") (CX := L2.CX0) rfl (by decide) (by kernel_rfl) ⟨rfl, by decide, by decide⟩ ?F (fun _ _ _ _ z => z)
    intro w mg fa h Y G hmg0
    obtain ⟨K, KX, c⟩ := Y
    have hmg : mg ("law" : PySem.Str) = some (.ref fa) := by
      have e : (HandSHeadRun.topDef (OpenLaw.row PySem.Challenge.rw_oneshelf_k41_whole_melting_or_parted).prog 45).name = ("law" : PySem.Str) := by kernel_rfl
      rw [← e]
      exact hmg0
    exact Dm.law_of KX G c.t.d c.more Dm.K41.okH Dm.K41.ok_all Dm.K41.bindOk (f := 40) (d := Dm.K41.d40) rfl rfl rfl rfl hmg main

set_option maxRecDepth 100000 in
theorem PySem.Challenge.cw_oneshelf_k41_whole_melting_or_parted_holds : PySem.Challenge.rw_oneshelf_k41_whole_melting_or_parted.Holds :=
  k41_end fun ns _ => Dm.K41.main ns

