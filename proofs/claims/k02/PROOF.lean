import PyProof.Rows.All
import Wide.All
import OpenK.AllK
import Wide.FinOn
import HandS.ForMost
import HandS.Walk
import HandS.More
import HandS.Defaults
import HandS.Wide
import HandS.Flow
import HandS.IsInst
import HandS.Style
import HandS.Deep
import HandS.TupAny
import HandS.TupLe
import HandS.SortRule
import KE.KSortTupAny
import KE.KSortAsk
import HandS.TupSets
import HandS.Strs
import HandS.SetKeys
import PyProof.ReprRoads
import PyProof.ReprLen
import PyProof.EnumMake
import PyProof.Draws
import KE.GoesMore
import HandS.DictComp
import PySem.Challenge.RW_stuckrows_k02_usual_modes_and_joins
set_option Elab.async false
set_option linter.all false
set_option maxRecDepth 100000
/-! VIa: an interpreter of our own for the part of Python that the laws use: its values, its syntax, its run. -/
namespace VI
open PySem L2

/-- values: frozen data are trees; gt: a tuple of the module's top; ref: an object that may change -/
inductive D where
  | non | bl (b : Bool) | int (i : Int) | str (s : Str) | ty (n : String)
  | tup (xs : List D) | gt (xs : List D) | lst (xs : List D)
  | dK (ks : List Key) (vs : List D) | dT (ks : List (List Key)) (vs : List D)
  | ref (n : Nat)
  deriving Inhabited

/-- objects that may change; fz: a list that was frozen -/
inductive Ob where
  | lst (xs : List D) | fz (xs : List D)
  | dK (ks : List Key) (vs : List D) | dT (ks : List (List Key)) (vs : List D)
  | zK (ks : List Key) (vs : List D) | zT (ks : List (List Key)) (vs : List D)

structure IH where
  n : Nat
  l : List (Nat × Ob)
def IH.get (h : IH) (k : Nat) : Option Ob := h.l.lookup k
def IH.push (h : IH) (o : Ob) : IH := ⟨h.n + 1, (h.n, o) :: h.l⟩
def setL (k : Nat) (o : Ob) : List (Nat × Ob) → List (Nat × Ob)
  | [] => []
  | (j, p) :: r => if j == k then (j, o) :: r else (j, p) :: setL k o r
def IH.set (h : IH) (k : Nat) (o : Ob) : IH := ⟨h.n, setL k o h.l⟩

inductive R (α : Type) where
  | ok (a : α) (h : IH)
  | bad
def R.bd {α β : Type} : R α → (α → IH → R β) → R β
  | .ok a h, f => f a h
  | .bad, _ => .bad

abbrev Sig := List (Option D)

/-! ### syntax -/
inductive Tgt where
  | nm (i : Nat)
  | tp (ts : List Tgt)

inductive Blt where
  | len | all | any | isi (ts : List String) | absI | intI | tuple | list | sorted | lenset | range | reprV | sum | minL | maxL
  deriving DecidableEq
inductive Mth where
  | append | get1 | get2 | extend | pop0 | pop1 | index | count
  deriving DecidableEq

mutual
inductive IE where
  | cst (d : D)
  | var (i : Nat)
  | glb (g : Nat)
  | gidx (g : Nat) (i : IE)
  | bin (o : Operator) (a b : IE)
  | neg (a : IE)
  | cmp (o : CmpOp) (a b : IE)
  | chn (o p : CmpOp) (a b c : IE)
  | andV (a b : IE) | orV (a b : IE) | notV (a : IE)
  | ifx (c : IT) (a b : IE)
  | tup (es : IEs)
  | lst (m : Bool) (es : IEs)
  | idx (a i : IE)
  | slc (a : IE) (lo hi : IO)
  | rev (a : IE)
  | call (f : Nat) (es : IEs)
  | callk (f : Nat) (ks : List Str) (pm : List Nat) (es kv : IEs)
  | blt (b : Blt) (es : IEs)
  | mth (m : Mth) (o : IE) (es : IEs)
  | lc1 (m : Bool) (own : List (Str × Nat)) (elt : IE) (s : Src) (t : Tgt) (c : IT)
  | lc2 (m : Bool) (own : List (Str × Nat)) (ow1 : List Nat) (elt : IE) (s : Src) (t : Tgt) (c : IT) (s1 : Src) (t1 : Tgt) (c1 : IT)
  | dc1 (tk : Bool) (m : Bool) (own : List (Str × Nat)) (k v : IE) (s : Src) (t : Tgt) (c : IT)
  | dict0 (tk : Bool)
  | nev
inductive IEs where
  | nil | cons (e : IE) (r : IEs)
inductive IO where
  | none | some (e : IE)
inductive IT where
  | yes | tru (e : IE) | conj (a b : IT) | disj (a b : IT) | neg (a : IT) | cmp (o : CmpOp) (a b : IE) | chn (o p : CmpOp) (a b c : IE)
inductive Src where
  | val (e : IE) | rng1 (e : IE) | rng2 (a b : IE) | enm (e : IE) | zip (st : Bool) (a b : IE) | items (e : IE) | vals (e : IE)
end

mutual
inductive IS where
  | asg (t : Tgt) (e : IE)
  | par (is : List Nat) (es : IEs)
  | seti (o i e : IE)
  | aug (i : Nat) (o : Operator) (e : IE)
  | expr (e : IE)
  | ret (fz : Bool) (e : IE)
  | retN
  | ite (c : IT) (a b : ISs)
  | for_ (s : Src) (t : Tgt) (b : ISs)
  | whl (c : IT) (b : ISs)
  | pass | brk | cont | never
inductive ISs where
  | nil | cons (s : IS) (r : ISs)
end

/-! ### what operations do -/
/-! data without objects that may change, as the library has it -/
mutual
def pyD : D → Option PyData
  | .non => some .none
  | .bl b => some (.bool b)
  | .int i => some (.int i)
  | .str s => some (.str s)
  | .tup xs => (pyDs xs).map .tuple
  | .gt xs => (pyDs xs).map .tuple
  | .lst xs => (pyDs xs).map .list
  | _ => none
def pyDs : List D → Option (List PyData)
  | [] => some []
  | x :: r => match pyD x with
    | none => none
    | some d => (pyDs r).map (d :: ·)
end
/-- the list that a value is -/
def lstOf (h : IH) : D → Option (List D)
  | .lst xs => some xs
  | .ref k => match h.get k with
    | some (.lst xs) => some xs
    | some (.fz xs) => some xs
    | _ => none
  | _ => none
def seqOf (h : IH) : D → Option (List D)
  | .tup xs => some xs
  | .gt xs => some xs
  | d => lstOf h d
/-- a value with the list that it is -/
def viewD (h : IH) (d : D) : D := match lstOf h d with
  | some xs => .lst xs
  | none => d
def truD (h : IH) : D → Option Bool
  | .non => some false
  | .bl b => some b
  | .int i => some (i != 0)
  | .str s => if s.length ≤ sizeLine then some ((s.length : Int) != 0) else none
  | .tup xs => some (!xs.isEmpty)
  | .gt xs => some (!xs.isEmpty)
  | .ty _ => none
  | d => (lstOf h d).map fun xs => !xs.isEmpty
def mkL (m : Bool) (xs : List D) (h : IH) : R D :=
  if xs.length ≤ sizeLine then (if m then .ok (.ref h.n) (h.push (.lst xs)) else .ok (.lst xs) h) else .bad
def mkT (xs : List D) (h : IH) : R D := if xs.length ≤ sizeLine then .ok (.tup xs) h else .bad
def flatD : D → Bool
  | .non => true
  | .bl _ => true
  | .int _ => true
  | .str _ => true
  | _ => false
def eqF : D → D → Bool
  | .non, .non => true
  | .bl a, .bl b => a == b
  | .bl a, .int b => (if a then 1 else 0) == b
  | .int a, .bl b => a == (if b then 1 else 0)
  | .int a, .int b => a == b
  | .str a, .str b => a == b
  | _, _ => false
/-- a bound on the bits of a product -/
def mulOk (i j : Int) : Bool := decide (i.natAbs.log2 + j.natAbs.log2 < 1000000)
def binD (o : Operator) (x y : D) (h : IH) : R D :=
  match o, x, y with
  | .Add, .int i, .int j => .ok (.int (i + j)) h
  | .Sub, .int i, .int j => .ok (.int (i - j)) h
  | .Mult, .int i, .int j => if mulOk i j then .ok (.int (i * j)) h else .bad
  | .FloorDiv, .int i, .int j => if 0 < j ∧ j.natAbs.log2 < 9000 then .ok (.int (i / j)) h else .bad
  | .Mod, .int i, .int j => if 0 < j then .ok (.int (i % j)) h else .bad
  | .Pow, .int i, .int j => if 0 ≤ j ∧ j ≤ 1000000 ∧ i.natAbs < 2 ^ 64 then .ok (.int (i ^ j.toNat)) h else .bad
  | .Add, .str a, .str b => if a.length + b.length ≤ sizeLine then .ok (.str (a ++ b)) h else .bad
  | .Add, .tup xs, .tup ys => mkT (xs ++ ys) h
  | .Add, x, y => match lstOf h x, lstOf h y with
    | some xs, some ys => mkL false (xs ++ ys) h
    | _, _ => .bad
  | _, _, _ => .bad
def keyOf : D → Option Key
  | .int i => some (.inl i)
  | .str s => some (.inr s)
  | _ => none
def keysOf : List D → Option (List Key)
  | [] => some []
  | x :: r => match keyOf x, keysOf r with
    | some k, some ks => some (k :: ks)
    | _, _ => none
def tkOf : D → Option (List Key)
  | .tup xs => keysOf xs
  | _ => none
def look {κ : Type} [DecidableEq κ] : List κ → List D → κ → Option D
  | k :: ks, v :: vs, x => if k = x then some v else look ks vs x
  | _, _, _ => none
def put {κ : Type} [DecidableEq κ] : List κ → List D → κ → D → List κ × List D
  | k :: ks, v :: vs, x, y => if k = x then (k :: ks, y :: vs) else let p := put ks vs x y; (k :: p.1, v :: p.2)
  | _, _, x, y => ([x], [y])
inductive Dc where
  | K (ks : List Key) (vs : List D) | T (ks : List (List Key)) (vs : List D) | no
def dctOf (h : IH) : D → Dc
  | .dK ks vs => .K ks vs
  | .dT ks vs => .T ks vs
  | .ref k => match h.get k with
    | some (.dK ks vs) => .K ks vs
    | some (.dT ks vs) => .T ks vs
    | some (.zK ks vs) => .K ks vs
    | some (.zT ks vs) => .T ks vs
    | _ => .no
  | _ => .no
/-- what a key finds: none: it can't be asked -/
def findD (h : IH) (d k : D) : Option (Option D) :=
  match dctOf h d with
  | .K ks vs => (keyOf k).map fun x => look ks vs x
  | .T ks vs => (tkOf k).map fun x => look ks vs x
  | .no => none
def strLt : List Nat → List Nat → Bool
  | [], [] => false
  | [], _ :: _ => true
  | _ :: _, [] => false
  | a :: r, b :: t => if a == b then strLt r t else decide (a < b)
def isIn (x y : D) (h : IH) : Option Bool :=
  match y with
  | .str t => match x with
    | .str s => if s.length = 1 then some (t.cps.toList.contains (s.cps.getD 0 0)) else none
    | _ => none
  | _ => match seqOf h y with
    | some ys => if flatD x && ys.all flatD then some (ys.any fun z => eqF z x) else
        (match pyD x, pyDs ys with
        | some a, some bs => if SeqAt.shaped a && bs.all SeqAt.shaped then some (bs.any fun b => PyData.eqv b a) else none
        | _, _ => none)
    | none => (findD h y x).map Option.isSome
def scalD : D → D → Bool
  | .non, .non => true
  | .non, .int _ => true
  | .int _, .non => true
  | .non, .bl _ => true
  | .bl _, .non => true
  | .non, .str _ => true
  | .str _, .non => true
  | .int _, .int _ => true
  | .bl _, .bl _ => true
  | .str _, .str _ => true
  | .int _, .str _ => true
  | .str _, .int _ => true
  | .bl _, .str _ => true
  | .str _, .bl _ => true
  | _, _ => false
def eqvD (h : IH) (x y : D) : Option Bool :=
  match pyD (viewD h x), pyD (viewD h y) with
  | some a, some b => if SeqAt.shaped a && SeqAt.shaped b then some (PyData.eqv a b) else none
  | _, _ => none
def eqD (h : IH) (x y : D) : Option Bool := if scalD x y then some (eqF x y) else eqvD h x y
def cmpD (o : CmpOp) (x y : D) (h : IH) : Option Bool :=
  match o with
  | .Eq => eqD h x y
  | .NotEq => (eqD h x y).map (!·)
  | .Lt => match x, y with | .int i, .int j => some (decide (i < j)) | _, _ => none
  | .LtE => match x, y with | .int i, .int j => some (decide (i ≤ j)) | _, _ => none
  | .Gt => match x, y with | .int i, .int j => some (decide (j < i)) | _, _ => none
  | .GtE => match x, y with | .int i, .int j => some (decide (j ≤ i)) | _, _ => none
  | .In => isIn x y h
  | .NotIn => (isIn x y h).map (!·)
  | .Is => match y with
    | .non => some (match x with | .non => true | _ => false)
    | .bl b => match x with | .bl c => some (b == c) | .non => some false | _ => none
    | _ => none
  | .IsNot => match y with
    | .non => some (match x with | .non => false | _ => true)
    | .bl b => match x with | .bl c => some (!(b == c)) | .non => some true | _ => none
    | _ => none
def idxD (x i : D) (h : IH) : Option D :=
  match i with
  | .int k => match x with
    | .str s => if s.length ≤ sizeLine then (atI s.cps.toList k).map fun c => .str ⟨#[c]⟩ else none
    | _ => match seqOf h x with
      | some xs => atI xs k
      | none => (findD h x i).getD none
  | _ => (findD h x i).getD none
def cutD (xs : List D) (lo hi : Option Int) : List D := (xs.drop (HT.sIx xs.length 0 lo)).take (HT.sIx xs.length xs.length hi - HT.sIx xs.length 0 lo)
def slcD (x : D) (lo hi : Option Int) (h : IH) : R D :=
  match x with
  | .tup xs => .ok (.tup (cutD xs lo hi)) h
  | .gt xs => if HT.sIx xs.length 0 lo = 0 ∧ HT.sIx xs.length xs.length hi = xs.length then .ok (.gt xs) h else .ok (.tup (cutD xs lo hi)) h
  | _ => match lstOf h x with
    | some xs => .ok (.lst (cutD xs lo hi)) h
    | none => .bad
def typD (h : IH) : D → Option String
  | .non => some "NoneType"
  | .bl _ => some "bool"
  | .int _ => some "int"
  | .str _ => some "str"
  | .tup _ => some "tuple"
  | .gt _ => some "tuple"
  | .lst _ => some "list"
  | .dK _ _ => some "dict"
  | .dT _ _ => some "dict"
  | .ref k => match h.get k with
    | some (.lst _) => some "list"
    | some (.fz _) => some "list"
    | some _ => some "dict"
    | none => none
  | .ty _ => none
def isiD (h : IH) (x : D) (ts : List String) : Option Bool :=
  (typD h x).map fun t => ts.any fun u => t == u || (t == "bool" && u == "int")
def blsOf : List D → Option (List Bool)
  | [] => some []
  | .bl b :: r => (blsOf r).map (b :: ·)
  | _ :: _ => none
def intsOf : List D → Option (List Int)
  | [] => some []
  | .int i :: r => (intsOf r).map (i :: ·)
  | _ :: _ => none
/-! sorting: ints, texts, tuples of them, all of one form -/
abbrev SI := Int ⊕ List Nat
def ltI : SI → SI → Bool
  | .inl a, .inl b => decide (a < b)
  | .inl _, .inr _ => true
  | .inr _, .inl _ => false
  | .inr a, .inr b => strLt a b
def ltS : List SI → List SI → Bool
  | [], [] => false
  | [], _ :: _ => true
  | _ :: _, [] => false
  | x :: r, y :: t => ltI x y || (!ltI y x && ltS r t)
def keyS : Key → SI
  | .inl i => .inl i
  | .inr s => .inr s.cps.toList
def isTxt : Key → Bool
  | .inl _ => false
  | .inr _ => true
/-- a tuple or not, the form, the sort key -/
def skd : D → Option (Bool × List Bool × List SI)
  | .int i => some (false, [false], [.inl i])
  | .str s => some (false, [true], [.inr s.cps.toList])
  | .tup xs => match keysOf xs with
    | some (k :: ks) => some (true, (k :: ks).map isTxt, (k :: ks).map keyS)
    | _ => none
  | _ => none
def skey (d : D) : List SI := match skd d with
  | some y => y.2.2
  | none => []
def insBy {α : Type} (lt : α → α → Bool) (x : α) : List α → List α
  | [] => [x]
  | y :: l => if lt y x then y :: insBy lt x l else x :: y :: l
def isort {α : Type} (lt : α → α → Bool) : List α → List α
  | [] => []
  | x :: l => insBy lt x (isort lt l)
def sameForm (b : Bool) (k : List Bool) (z : D) : Bool := match skd z with
  | some y => b == y.1 && k == y.2.1
  | none => false
def sortD (ys : List D) : Option (List D) := match ys with
  | [] => some []
  | [y] => some [y]
  | y :: r => match skd y with
    | some (b, k, _) => if (y :: r).all (sameForm b k) then some (isort (fun x y => ltS (skey x) (skey y)) (y :: r)) else none
    | none => none
/-- how many are different -/
def ndist {κ : Type} [DecidableEq κ] : List κ → Nat
  | [] => 0
  | x :: r => if x ∈ r then ndist r else ndist r + 1
def tksOf : List D → Option (List (List Key))
  | [] => some []
  | x :: r => match tkOf x, tksOf r with
    | some k, some ks => some (k :: ks)
    | _, _ => none
/-- len(set(ys)) -/
def lensetD (ys : List D) : Option Nat := match keysOf ys with
  | some ks => if ks.length < 60 then some (ndist ks) else none
  | none => match tksOf ys with
    | some ts => if ts.length < 60 then some (ndist ts) else none
    | none => none
/-! a bound on the length of a repr -/
mutual
def wtP : PyData → Nat
  | .none => 5
  | .bool _ => 6
  | .int i => if i.natAbs < 10 ^ 12 then 13 else 10 ^ 9
  | .str x => if x.cps.toList.all (fun c => decide (c < 16 ^ 8)) then 10 * x.length + 2 else 10 ^ 9
  | .list xs => wtPs xs + 3
  | .tuple xs => wtPs xs + 3
  | .dict _ => 10 ^ 9
def wtPs : List PyData → Nat
  | [] => 0
  | x :: r => wtP x + 2 + wtPs r
end
def bltD (b : Blt) (xs : List D) (h : IH) : R D :=
  match b, xs with
  | .len, [.str s] => if s.length ≤ sizeLine then .ok (.int s.length) h else .bad
  | .len, [x] => match seqOf h x with
    | some ys => .ok (.int ys.length) h
    | none => .bad
  | .all, [x] => match (lstOf h x).bind blsOf with
    | some bs => .ok (.bl (bs.all id)) h
    | none => .bad
  | .any, [x] => match (lstOf h x).bind blsOf with
    | some bs => .ok (.bl (bs.any id)) h
    | none => .bad
  | .isi ts, [x] => match isiD h x ts with
    | some b => .ok (.bl b) h
    | none => .bad
  | .absI, [.int i] => .ok (.int (if i < 0 then -i else i)) h
  | .intI, [.int i] => .ok (.int i) h
  | .intI, [.bl k] => .ok (.int (if k then 1 else 0)) h
  | .tuple, [.tup ys] => .ok (.tup ys) h
  | .tuple, [.gt ys] => .ok (.gt ys) h
  | .tuple, [x] => match lstOf h x with
    | some ys => .ok (.tup ys) h
    | none => .bad
  | .list, [x] => match seqOf h x with
    | some ys => .ok (.lst ys) h
    | none => .bad
  | .sorted, [x] => match (lstOf h x).bind sortD with
    | some ys => .ok (.lst ys) h
    | none => .bad
  | .lenset, [x] => match (seqOf h x).bind lensetD with
    | some n => .ok (.int n) h
    | none => .bad
  | .reprV, [x] => match pyD (viewD h x) with
    | some d => if wtP d ≤ 1000000 ∧ d.depth ≤ 40 then .ok (.str d.shown) h else .bad
    | none => .bad
  | _, _ => .bad
def mthD (m : Mth) (x : D) (as : List D) (h : IH) : R D :=
  match m, as with
  | .append, [y] => match x with
    | .ref k => match h.get k with
      | some (.lst xs) => if xs.length < sizeLine then .ok .non (h.set k (.lst (xs ++ [y]))) else .bad
      | _ => .bad
    | _ => .bad
  | .get1, [y] => match findD h x y with
    | some o => .ok (o.getD .non) h
    | none => .bad
  | .get2, [y, z] => match findD h x y with
    | some o => .ok (o.getD z) h
    | none => .bad
  | _, _ => .bad
/-- what a method is asked of -/
def rcv (m : Mth) (x : D) (h : IH) : Bool :=
  match m with
  | .append => (lstOf h x).isSome
  | .get1 => (match dctOf h x with | .no => false | _ => true)
  | .get2 => (match dctOf h x with | .no => false | _ => true)
  | _ => false
def setD (x i v : D) (h : IH) : R Unit :=
  match x with
  | .ref k => match h.get k with
    | some (.lst xs) => match i with
      | .int j => match ixN xs.length j with
        | some p => .ok () (h.set k (.lst (xs.set p v)))
        | none => .bad
      | _ => .bad
    | some (.dK ks vs) => match keyOf i with
      | some key => if ks.length < sizeLine then (let p := put ks vs key v; .ok () (h.set k (.dK p.1 p.2))) else .bad
      | none => .bad
    | some (.dT ks vs) => match tkOf i with
      | some key => if ks.length < sizeLine then (let p := put ks vs key v; .ok () (h.set k (.dT p.1 p.2))) else .bad
      | none => .bad
    | _ => .bad
  | _ => .bad
def freeze (d : D) (h : IH) : R D :=
  match d with
  | .ref k => match h.get k with
    | some (.lst xs) => .ok (.lst xs) (h.set k (.fz xs))
    | some (.fz xs) => .ok (.lst xs) h
    | some (.dK ks vs) => .ok (.dK ks vs) (h.set k (.zK ks vs))
    | some (.dT ks vs) => .ok (.dT ks vs) (h.set k (.zT ks vs))
    | some (.zK ks vs) => .ok (.dK ks vs) h
    | some (.zT ks vs) => .ok (.dT ks vs) h
    | none => .bad
  | _ => .ok d h

/-- the outcome of a comparison, of a search -/
def ansB (o : Option Bool) (h : IH) : R D := match o with
  | some c => .ok (.bl c) h
  | none => .bad
def ansD (o : Option D) (h : IH) : R D := match o with
  | some d => .ok d h
  | none => .bad
def ansT (o : Option Bool) (h : IH) : R Bool := match o with
  | some c => .ok c h
  | none => .bad
/-! ### targets -/
mutual
def asgT : Tgt → D → Sig → Option Sig
  | .nm i, d, σ => some (σ.set i (some d))
  | .tp ts, .tup xs, σ => asgTs ts xs σ
  | .tp ts, .gt xs, σ => asgTs ts xs σ
  | .tp _, _, _ => none
def asgTs : List Tgt → List D → Sig → Option Sig
  | [], [], σ => some σ
  | t :: ts, x :: xs, σ => match asgT t x σ with
    | some σ' => asgTs ts xs σ'
    | none => none
  | _, _, _ => none
end
def wipeI (σ : Sig) : List Nat → Sig
  | [] => σ
  | v :: vs => (wipeI σ vs).set v none
def keyD : Key → D
  | .inl i => .int i
  | .inr s => .str s
def tkD (ks : List Key) : D := .tup (ks.map keyD)
def rangeD (lo : Int) : Nat → List D
  | 0 => []
  | n + 1 => .int lo :: rangeD (lo + 1) n
def enumD (i : Nat) : List D → List D
  | [] => []
  | x :: r => .tup [.int i, x] :: enumD (i + 1) r
/-- the items of what is walked -/
def itemsOf (x : D) (h : IH) : R (List D) :=
  match x with
  | .str s => .ok (s.cps.toList.map fun c => .str ⟨#[c]⟩) h
  | .tup xs => .ok xs h
  | .gt xs => .ok xs h
  | .lst xs => .ok xs h
  | .dK ks _ => .ok (ks.map keyD) h
  | .dT ks _ => .ok (ks.map tkD) h
  | _ => .bad
def seqItems (x : D) (h : IH) : R (List D) :=
  match x with
  | .tup xs => .ok (enumD 0 xs) h
  | .gt xs => .ok (enumD 0 xs) h
  | .lst xs => .ok (enumD 0 xs) h
  | _ => .bad
def range1 (x : D) (h : IH) : R (List D) :=
  match x with
  | .int i => if -(2 ^ 62) ≤ i ∧ i < 2 ^ 62 then .ok (rangeD 0 i.toNat) h else .bad
  | _ => .bad
def range2 (x y : D) (h : IH) : R (List D) :=
  match x, y with
  | .int i, .int j => if -(2 ^ 62) ≤ i ∧ i < 2 ^ 62 ∧ -(2 ^ 62) ≤ j ∧ j < 2 ^ 62 then .ok (rangeD i (j - i).toNat) h else .bad
  | _, _ => .bad

/-- some of the items, in an order -/
def pick {α : Type} (pm : List Nat) (l : List α) : List α := pm.filterMap fun k => l[k]?
structure En where
  call : Nat → List D → IH → R D
  glob : Nat → D
  gd : Nat → List (Str × D)
  fuel : Nat

/-- a dict that a comprehension fills -/
def putDc (a : Dc) (y z : D) : Option Dc := match a with
  | .K ks vs => match keyOf y with
    | some k => if ks.length < sizeLine then some (.K (put ks vs k z).1 (put ks vs k z).2) else none
    | none => none
  | .T ks vs => match tkOf y with
    | some k => if ks.length < sizeLine then some (.T (put ks vs k z).1 (put ks vs k z).2) else none
    | none => none
  | .no => none
def newDc (tk : Bool) : Dc := if tk then .T [] [] else .K [] []
def mkD (a : Dc) (h : IH) : R D := match a with
  | .K ks vs => .ok (.ref h.n) (h.push (.dK ks vs))
  | .T ks vs => .ok (.ref h.n) (h.push (.dT ks vs))
  | .no => .bad
/-- the turns of a comprehension -/
def turns {α : Type} (f : D → α → IH → R α) : List D → α → IH → R α
  | [], acc, h => .ok acc h
  | x :: r, acc, h => match f x acc h with
    | .ok acc' h' => turns f r acc' h'
    | .bad => .bad
mutual
def evE (Γ : En) : IE → Sig → IH → R D
  | .cst d, _, h => .ok d h
  | .var i, σ, h => match σ[i]? with
    | some (some d) => .ok d h
    | _ => .bad
  | .glb g, _, h => .ok (Γ.glob g) h
  | .gidx g i, σ, h => (evE Γ i σ h).bd fun y h => match y with
    | .str z => ansD ((Γ.gd g).lookup z) h
    | _ => .bad
  | .bin o a b, σ, h => (evE Γ a σ h).bd fun x h => (evE Γ b σ h).bd fun y h => binD o x y h
  | .neg a, σ, h => (evE Γ a σ h).bd fun x h => match x with
    | .int i => .ok (.int (-i)) h
    | _ => .bad
  | .cmp o a b, σ, h => (evE Γ a σ h).bd fun x h => (evE Γ b σ h).bd fun y h => ansB (cmpD o x y h) h
  | .chn o p a b c, σ, h => (evE Γ a σ h).bd fun x h => (evE Γ b σ h).bd fun y h => match cmpD o x y h with
    | some true => (evE Γ c σ h).bd fun z h => ansB (cmpD p y z h) h
    | some false => .ok (.bl false) h
    | none => .bad
  | .andV a b, σ, h => (evE Γ a σ h).bd fun x h => match truD h x with
    | some true => evE Γ b σ h
    | some false => .ok x h
    | none => .bad
  | .orV a b, σ, h => (evE Γ a σ h).bd fun x h => match truD h x with
    | some true => .ok x h
    | some false => evE Γ b σ h
    | none => .bad
  | .notV a, σ, h => (evE Γ a σ h).bd fun x h => ansB ((truD h x).map (!·)) h
  | .ifx c a b, σ, h => (evT Γ c σ h).bd fun d h => match d with
    | true => evE Γ a σ h
    | false => evE Γ b σ h
  | .tup es, σ, h => (evEs Γ es σ h).bd fun xs h => mkT xs h
  | .lst m es, σ, h => (evEs Γ es σ h).bd fun xs h => mkL m xs h
  | .idx a i, σ, h => (evE Γ a σ h).bd fun x h => (evE Γ i σ h).bd fun y h => ansD (idxD x y h) h
  | .slc a lo hi, σ, h => (evE Γ a σ h).bd fun x h => (evO Γ lo σ h).bd fun l h => (evO Γ hi σ h).bd fun u h => slcD x l u h
  | .rev a, σ, h => (evE Γ a σ h).bd fun x h => match lstOf h x with
    | some xs => .ok (.lst xs.reverse) h
    | none => .bad
  | .call f es, σ, h => (evEs Γ es σ h).bd fun xs h => Γ.call f xs h
  | .callk f _ pm es kv, σ, h => (evEs Γ es σ h).bd fun xs h => (evEs Γ kv σ h).bd fun ys h => Γ.call f (pick pm (xs ++ ys)) h
  | .blt b es, σ, h => (evEs Γ es σ h).bd fun xs h => bltD b xs h
  | .mth m o es, σ, h => (evE Γ o σ h).bd fun x h => if rcv m x h then (evEs Γ es σ h).bd fun xs h => mthD m x xs h else .bad
  | .lc1 m own elt s t c, σ, h => (evI Γ s σ h).bd fun xs h =>
      (turns (fun x acc h => match asgT t x (wipeI σ (own.map (·.2))) with
        | none => .bad
        | some σ2 => (evT Γ c σ2 h).bd fun d h => match d with
          | true => (evE Γ elt σ2 h).bd fun y h => if acc.length < sizeLine then .ok (acc ++ [y]) h else .bad
          | false => .ok acc h) xs [] h).bd fun ys h => mkL m ys h
  | .lc2 m own ow1 elt s t c s1 t1 c1, σ, h => (evI Γ s σ h).bd fun xs h =>
      (turns (fun x acc h => match asgT t x (wipeI σ (own.map (·.2))) with
        | none => .bad
        | some σ2 => (evT Γ c σ2 h).bd fun d h => match d with
          | true => (evI Γ s1 σ2 h).bd fun zs h => turns (fun z acc h => match asgT t1 z (wipeI σ2 ow1) with
            | none => .bad
            | some σ3 => (evT Γ c1 σ3 h).bd fun d1 h => match d1 with
              | true => (evE Γ elt σ3 h).bd fun y h => if acc.length < sizeLine then .ok (acc ++ [y]) h else .bad
              | false => .ok acc h) zs acc h
          | false => .ok acc h) xs [] h).bd fun ys h => mkL m ys h
  | .dc1 tk _ own k v s t c, σ, h => (evI Γ s σ h).bd fun xs h =>
      (turns (fun x acc h => match asgT t x (wipeI σ (own.map (·.2))) with
        | none => .bad
        | some σ2 => (evT Γ c σ2 h).bd fun d h => match d with
          | true => (evE Γ k σ2 h).bd fun y h => (evE Γ v σ2 h).bd fun z h => match putDc acc y z with
            | some a => .ok a h
            | none => .bad
          | false => .ok acc h) xs (newDc tk) h).bd fun a h => mkD a h
  | .nev, _, _ => .bad
  | .dict0 tk, _, h => .ok (.ref h.n) (h.push (if tk then .dT [] [] else .dK [] []))
def evEs (Γ : En) : IEs → Sig → IH → R (List D)
  | .nil, _, h => .ok [] h
  | .cons e r, σ, h => (evE Γ e σ h).bd fun x h => (evEs Γ r σ h).bd fun xs h => .ok (x :: xs) h
def evO (Γ : En) : IO → Sig → IH → R (Option Int)
  | .none, _, h => .ok none h
  | .some e, σ, h => (evE Γ e σ h).bd fun x h => match x with
    | .int i => .ok (some i) h
    | _ => .bad
def evT (Γ : En) : IT → Sig → IH → R Bool
  | .yes, _, h => .ok true h
  | .tru e, σ, h => (evE Γ e σ h).bd fun x h => ansT (truD h x) h
  | .conj a b, σ, h => (evT Γ a σ h).bd fun c h => match c with
    | true => evT Γ b σ h
    | false => .ok false h
  | .disj a b, σ, h => (evT Γ a σ h).bd fun c h => match c with
    | true => .ok true h
    | false => evT Γ b σ h
  | .neg a, σ, h => (evT Γ a σ h).bd fun c h => .ok (!c) h
  | .cmp o a b, σ, h => (evE Γ a σ h).bd fun x h => (evE Γ b σ h).bd fun y h => ansT (cmpD o x y h) h
  | .chn o p a b c, σ, h => (evE Γ a σ h).bd fun x h => (evE Γ b σ h).bd fun y h => match cmpD o x y h with
    | some true => (evE Γ c σ h).bd fun z h => ansT (cmpD p y z h) h
    | some false => .ok false h
    | none => .bad
def evI (Γ : En) : Src → Sig → IH → R (List D)
  | .val e, σ, h => ((evE Γ e σ h).bd fun x h => freeze x h).bd fun y h => itemsOf y h
  | .rng1 e, σ, h => ((evE Γ e σ h).bd fun x h => (R.ok [] h).bd fun xs h => .ok (x :: xs) h).bd fun xs h => match xs with
    | [x] => range1 x h
    | _ => .bad
  | .rng2 a b, σ, h => ((evE Γ a σ h).bd fun x h => ((evE Γ b σ h).bd fun y h => (R.ok [] h).bd fun xs h => .ok (y :: xs) h).bd fun xs h => .ok (x :: xs) h).bd fun xs h => match xs with
    | [x, y] => range2 x y h
    | _ => .bad
  | .enm e, σ, h => ((evE Γ e σ h).bd fun x h => freeze x h).bd fun y h => seqItems y h
  | _, _, _ => .bad
end

def augD (o : Operator) (x y : D) : Option D :=
  match o, x, y with
  | .Add, .int i, .int j => some (.int (i + j))
  | .Sub, .int i, .int j => some (.int (i - j))
  | _, _, _ => none
inductive Fl where
  | nx (σ : Sig) | rt (d : D) | bk (σ : Sig) | ct (σ : Sig)
def whileN (step : Sig → IH → R (Option Fl)) : Nat → Sig → IH → R Fl
  | 0, _, _ => .bad
  | n + 1, σ, h => match step σ h with
    | .ok (some (.nx σ')) h' => whileN step n σ' h'
    | .ok (some (.ct σ')) h' => whileN step n σ' h'
    | .ok (some (.bk σ')) h' => .ok (.nx σ') h'
    | .ok (some (.rt d)) h' => .ok (.rt d) h'
    | .ok none h' => .ok (.nx σ) h'
    | .bad => .bad
def forN (step : D → Sig → IH → R Fl) : List D → Sig → IH → R Fl
  | [], σ, h => .ok (.nx σ) h
  | x :: r, σ, h => match step x σ h with
    | .ok (.nx σ') h' => forN step r σ' h'
    | .ok (.ct σ') h' => forN step r σ' h'
    | .ok (.bk σ') h' => .ok (.nx σ') h'
    | .ok (.rt d) h' => .ok (.rt d) h'
    | .bad => .bad
mutual
def exS (Γ : En) : IS → Sig → IH → R Fl
  | .asg t e, σ, h => (evE Γ e σ h).bd fun x h => match asgT t x σ with
    | some σ' => .ok (.nx σ') h
    | none => .bad
  | .par is es, σ, h => (evEs Γ es σ h).bd fun xs h => match asgTs (is.map Tgt.nm) xs σ with
    | some σ' => .ok (.nx σ') h
    | none => .bad
  | .seti o i e, σ, h => (evE Γ e σ h).bd fun v h => (evE Γ o σ h).bd fun x h => (evE Γ i σ h).bd fun y h => (setD x y v h).bd fun _ h => .ok (.nx σ) h
  | .aug i o e, σ, h => match σ[i]? with
    | some (some x) => (evE Γ e σ h).bd fun y h => match augD o x y with
      | some z => .ok (.nx (σ.set i (some z))) h
      | none => .bad
    | _ => .bad
  | .expr e, σ, h => (evE Γ e σ h).bd fun _ h => .ok (.nx σ) h
  | .ret fz e, σ, h => (evE Γ e σ h).bd fun x h => if fz then (freeze x h).bd fun y h => .ok (.rt y) h else .ok (.rt x) h
  | .retN, _, h => .ok (.rt .non) h
  | .ite c a b, σ, h => (evT Γ c σ h).bd fun d h => match d with
    | true => exSs Γ a σ h
    | false => exSs Γ b σ h
  | .for_ s t b, σ, h => (evI Γ s σ h).bd fun xs h => forN (fun x σ h => match asgT t x σ with
    | none => .bad
    | some σ2 => exSs Γ b σ2 h) xs σ h
  | .whl c b, σ, h => whileN (fun σ h => (evT Γ c σ h).bd fun d h => match d with
    | true => (exSs Γ b σ h).bd fun f h => .ok (some f) h
    | false => .ok none h) Γ.fuel σ h
  | .pass, σ, h => .ok (.nx σ) h
  | .brk, σ, h => .ok (.bk σ) h
  | .cont, σ, h => .ok (.ct σ) h
  | .never, _, _ => .bad
def exSs (Γ : En) : ISs → Sig → IH → R Fl
  | .nil, σ, h => .ok (.nx σ) h
  | .cons s r, σ, h => (exS Γ s σ h).bd fun f h => match f with
    | .nx σ' => exSs Γ r σ' h
    | g => .ok g h
end

/-! data without objects that may change -/
mutual
def pureD : D → Bool
  | .tup xs => pureDs xs
  | .gt xs => pureDs xs
  | .lst xs => pureDs xs
  | .dK _ vs => pureDs vs
  | .dT _ vs => pureDs vs
  | .ref _ => false
  | _ => true
def pureDs : List D → Bool
  | [] => true
  | x :: r => pureD x && pureDs r
end
/-- a def; pur: it takes and gives frozen data alone, and is run on a heap of its own -/
structure Fn where
  np : Nat
  ns : Nat
  body : ISs
  pur : Bool := false
/-- the end of a def -/
def endF : R Fl → R D
  | .ok (.rt d) h => .ok d h
  | .ok (.nx _) h => .ok .non h
  | _ => .bad
def endP (h : IH) : R Fl → R D
  | .ok (.rt d) _ => if pureD d then .ok d h else .bad
  | .ok (.nx _) _ => .ok .non h
  | _ => .bad
def startI (n : Nat) (ds : List D) : Sig := ds.map some ++ List.replicate (n - ds.length) none
/-- the run of a def, by depth -/
def run (F : List Fn) (G : Nat → D) (gd : Nat → List (Str × D)) (fuel : Nat) : Nat → Nat → List D → IH → R D
  | 0, _, _, _ => .bad
  | n + 1, f, ds, h => match F[f]? with
    | none => .bad
    | some fn => if ds.length = fn.np then
        match fn.pur with
        | true => if pureDs ds then endP h (exSs ⟨run F G gd fuel n, G, gd, fuel⟩ fn.body (startI fn.ns ds) ⟨0, []⟩) else .bad
        | false => endF (exSs ⟨run F G gd fuel n, G, gd, fuel⟩ fn.body (startI fn.ns ds) h)
      else .bad
end VI

/-! VIb: how the interpreter's values and heap stand to those of the layer. -/
namespace VI
open PySem L2

abbrev Ro := Nat → Option Addr
abbrev Fg := PySem.W.Frag
/-- a list of the written part -/
def GL (K : Fg) (a : Addr) (xs : List V) : Prop := ∃ (its : List Value) (n : Nat), K.lookup a = some { cls := .type "list", data := .seq its.toArray n } ∧ xs.length ≤ sizeLine ∧ Vals xs its
def RdL (K : Fg) (H : Hp) (a : Addr) (xs : List V) : Prop := Rd H a (.lst xs) ∨ GL K a xs
theorem RdL.sq {K : Fg} {H : Hp} {a : Addr} {xs : List V} (h : RdL K H a xs) : SqL K H a xs := by
  rcases h with h | ⟨its, n, hk, hz, r⟩
  · exact .inl h
  · exact .inr ⟨_, its.toArray, n, hk, rfl, rfl, rfl, by rw [List.size_toArray, ← r.length]; exact hz, by simpa using r⟩
/-- a list that nobody changes any more -/
def FzL (K : Fg) (H : Hp) (a : Addr) (xs : List V) : Prop := (∃ o, H a = some (.frz o (.lst xs))) ∨ GL K a xs
theorem FzL.rd {K : Fg} {H : Hp} {a : Addr} {xs : List V} (h : FzL K H a xs) : RdL K H a xs := by
  rcases h with h | h
  · exact .inl (.inr h)
  · exact .inr h
theorem FzL.sq {K : Fg} {H : Hp} {a : Addr} {xs : List V} (h : FzL K H a xs) : SqL K H a xs := h.rd.sq
/-- a tuple of the written part -/
def GT (K : Fg) (a : Addr) (xs : List V) : Prop := ∃ (o : Obj) (its : Array Value) (n : Nat), K.lookup a = some o ∧ o.cls = .type "tuple" ∧ o.data = .seq its n ∧ its.size ≤ sizeLine ∧ Vals xs its.toList
mutual
inductive Rl (ρ : Ro) (K : Fg) (H : Hp) : D → V → Prop
  | non : Rl ρ K H .non .non
  | bl (b : Bool) : Rl ρ K H (.bl b) (.bl b)
  | int (i : Int) : Rl ρ K H (.int i) (.int i)
  | str (s : Str) : Rl ρ K H (.str s) (.str s)
  | ty (n : String) : Rl ρ K H (.ty n) (.ty n)
  | tup {a : Addr} {xs : List V} {ds : List D} : H a = some (.tup xs) → Rls ρ K H ds xs → Rl ρ K H (.tup ds) (.ref a)
  | gt {a : Addr} {xs : List V} {ds : List D} : GT K a xs → Rls ρ K H ds xs → Rl ρ K H (.gt ds) (.ref a)
  | lst {a : Addr} {xs : List V} {ds : List D} : FzL K H a xs → Rls ρ K H ds xs → Rl ρ K H (.lst ds) (.ref a)
  | dK {a : Addr} {o : Obj} {ks : List Key} {xs : List V} {ds : List D} : H a = some (.frz o (.dK (ks.zip xs))) → ks.length = xs.length → Rls ρ K H ds xs → Rl ρ K H (.dK ks ds) (.ref a)
  | dT {a : Addr} {o : Obj} {ks : List (List Key)} {xs : List V} {ds : List D} : H a = some (.frz o (.dT (ks.zip xs))) → ks.length = xs.length → Rls ρ K H ds xs → Rl ρ K H (.dT ks ds) (.ref a)
  | ref {n : Nat} {a : Addr} : ρ n = some a → Rl ρ K H (.ref n) (.ref a)
inductive Rls (ρ : Ro) (K : Fg) (H : Hp) : List D → List V → Prop
  | nil : Rls ρ K H [] []
  | cons {d : D} {v : V} {ds : List D} {vs : List V} : Rl ρ K H d v → Rls ρ K H ds vs → Rls ρ K H (d :: ds) (v :: vs)
end
abbrev Le (ρ ρ' : Ro) : Prop := ∀ k a, ρ k = some a → ρ' k = some a
/-- what is kept from heap to heap: tuples, what is frozen, and all that is not the interpreter's own -/
structure Mo (ρ ρ' : Ro) (H H' : Hp) : Prop where
  le : Le ρ ρ'
  tup : ∀ b xs, H b = some (.tup xs) → H' b = some (.tup xs)
  frz : ∀ b o u, H b = some (.frz o u) → H' b = some (.frz o u)
structure Stp (ρ ρ' : Ro) (H H' : Hp) : Prop where
  le : Le ρ ρ'
  nw : ∀ k a, ρ' k = some a → ρ k = some a ∨ H a = none
  tup : ∀ b xs, H b = some (.tup xs) → H' b = some (.tup xs)
  frz : ∀ b o u, H b = some (.frz o u) → H' b = some (.frz o u)
  oth : ∀ b u, H b = some u → (∀ k, ρ k ≠ some b) → H' b = some u
  gr : ∀ c, H' c = none → H c = none
theorem Stp.mo {ρ ρ' : Ro} {H H' : Hp} (k : Stp ρ ρ' H H') : Mo ρ ρ' H H' := ⟨k.le, k.tup, k.frz⟩
theorem FzL.mo {ρ ρ' : Ro} {K : Fg} {H H' : Hp} {a : Addr} {xs : List V} (h : FzL K H a xs) (k : Mo ρ ρ' H H') : FzL K H' a xs := by
  rcases h with ⟨o, h⟩ | h
  · exact .inl ⟨o, k.frz _ _ _ h⟩
  · exact .inr h
theorem Stp.refl (ρ : Ro) (H : Hp) : Stp ρ ρ H H := ⟨fun _ _ z => z, fun _ _ z => .inl z, fun _ _ e => e, fun _ _ _ e => e, fun _ _ e _ => e, fun _ e => e⟩
theorem Stp.trans {ρ ρ1 ρ2 : Ro} {H H1 H2 : Hp} (a : Stp ρ ρ1 H H1) (b : Stp ρ1 ρ2 H1 H2) : Stp ρ ρ2 H H2 := by
  refine ⟨fun k c z => b.le _ _ (a.le _ _ z), fun k c z => ?_, fun c xs e => b.tup c xs (a.tup c xs e), fun c o u e => b.frz c o u (a.frz c o u e), fun c u e n => ?_, fun c e => a.gr c (b.gr c e)⟩
  · rcases b.nw k c z with z | z
    · exact a.nw k c z
    · exact .inr (a.gr c z)
  · refine b.oth c u (a.oth c u e n) fun k z => ?_
    rcases a.nw k c z with z | z
    · exact n k z
    · rw [z] at e; cases e
theorem upd_none {H : Hp} {p c : Addr} {o : HO} (e : upd H p o c = none) : H c = none := by
  by_cases hc : c = p
  · subst hc; rw [upd_same] at e; cases e
  · rw [upd_ne hc] at e; exact e
theorem Stp.new {ρ : Ro} {H : Hp} {p : Addr} {o : HO} (hp : H p = none) : Stp ρ ρ H (upd H p o) :=
  ⟨fun _ _ z => z, fun _ _ z => .inl z, fun b xs e => by rw [upd_ne (ne_of_none e hp)]; exact e, fun b o u e => by rw [upd_ne (ne_of_none e hp)]; exact e, fun b u e _ => by rw [upd_ne (ne_of_none e hp)]; exact e, fun c e => upd_none e⟩
theorem Stp.wr {ρ : Ro} {H : Hp} {k : Nat} {p : Addr} {o : HO} (hk : ρ k = some p) (hm : Mut (H p)) : Stp ρ ρ H (upd H p o) := by
  have ne : ∀ {b : Addr} {u : HO}, H b = some u → ¬ Mut (some u) → b ≠ p := fun e nm z => by
    rw [← z, e] at hm
    exact nm hm
  refine ⟨fun _ _ z => z, fun _ _ z => .inl z, fun b xs e => ?_, fun b q u e => ?_, fun b u e n => ?_, fun c e => upd_none e⟩
  · rw [upd_ne (ne e fun z => z)]; exact e
  · rw [upd_ne (ne e fun z => z)]; exact e
  · have hb : b ≠ p := fun z => n k (by rw [z]; exact hk)
    rw [upd_ne hb]; exact e
mutual
theorem Rl.mo {ρ ρ' : Ro} {K : Fg} {H H' : Hp} (k : Mo ρ ρ' H H') : ∀ {d : D} {v : V}, Rl ρ K H d v → Rl ρ' K H' d v
  | _, _, .non => .non
  | _, _, .bl b => .bl b
  | _, _, .int i => .int i
  | _, _, .str s => .str s
  | _, _, .ty n => .ty n
  | _, _, .tup h r => .tup (k.tup _ _ h) (Rls.mo k r)
  | _, _, .gt h r => .gt h (Rls.mo k r)
  | _, _, .lst (.inl ⟨o, h⟩) r => .lst (.inl ⟨o, k.frz _ _ _ h⟩) (Rls.mo k r)
  | _, _, .lst (.inr h) r => .lst (.inr h) (Rls.mo k r)
  | _, _, .dK h e r => .dK (k.frz _ _ _ h) e (Rls.mo k r)
  | _, _, .dT h e r => .dT (k.frz _ _ _ h) e (Rls.mo k r)
  | _, _, .ref h => .ref (k.le _ _ h)
theorem Rls.mo {ρ ρ' : Ro} {K : Fg} {H H' : Hp} (k : Mo ρ ρ' H H') : ∀ {ds : List D} {vs : List V}, Rls ρ K H ds vs → Rls ρ' K H' ds vs
  | _, _, .nil => .nil
  | _, _, .cons h r => .cons (Rl.mo k h) (Rls.mo k r)
end
theorem Rl.mono {ρ ρ' : Ro} {K : Fg} {H H' : Hp} (k : Stp ρ ρ' H H') {d : D} {v : V} (r : Rl ρ K H d v) : Rl ρ' K H' d v := r.mo k.mo
theorem Rls.mono {ρ ρ' : Ro} {K : Fg} {H H' : Hp} (k : Stp ρ ρ' H H') {d : List D} {v : List V} (r : Rls ρ K H d v) : Rls ρ' K H' d v := r.mo k.mo
/-! frozen data stand for the same whatever the objects are called -/
mutual
theorem Rl.pur {ρ ρ' : Ro} {K : Fg} {H : Hp} : ∀ {d : D} {v : V}, Rl ρ K H d v → pureD d = true → Rl ρ' K H d v
  | _, _, .non, _ => .non
  | _, _, .bl b, _ => .bl b
  | _, _, .int i, _ => .int i
  | _, _, .str s, _ => .str s
  | _, _, .ty n, _ => .ty n
  | _, _, .tup h r, p => .tup h (Rls.pur r p)
  | _, _, .gt h r, p => .gt h (Rls.pur r p)
  | _, _, .lst h r, p => .lst h (Rls.pur r p)
  | _, _, .dK h e r, p => .dK h e (Rls.pur r p)
  | _, _, .dT h e r, p => .dT h e (Rls.pur r p)
  | _, _, .ref h, p => by cases p
theorem Rls.pur {ρ ρ' : Ro} {K : Fg} {H : Hp} : ∀ {ds : List D} {vs : List V}, Rls ρ K H ds vs → pureDs ds = true → Rls ρ' K H ds vs
  | _, _, .nil, _ => .nil
  | _, _, .cons (d := d) (ds := ds) h r, p => by
    have q : pureD d = true ∧ pureDs ds = true := by simpa [pureDs] using p
    exact .cons (Rl.pur h q.1) (Rls.pur r q.2)
end
section
variable {ρ : Ro} {K : Fg} {H : Hp}
theorem Rls.length : ∀ {ds : List D} {vs : List V}, Rls ρ K H ds vs → ds.length = vs.length
  | _, _, .nil => rfl
  | _, _, .cons _ r => congrArg Nat.succ (Rls.length r)
theorem Rls.get : ∀ {ds : List D} {vs : List V} {i : Nat} {d : D}, Rls ρ K H ds vs → ds[i]? = some d → ∃ v, vs[i]? = some v ∧ Rl ρ K H d v
  | _, _, _, _, .nil, e => by simp at e
  | _, _, 0, _, .cons h _, e => by simp at e; subst e; exact ⟨_, rfl, h⟩
  | _, _, i + 1, d, .cons _ r, e => by
    obtain ⟨v, h1, h2⟩ := Rls.get (i := i) (d := d) r (by simpa using e)
    exact ⟨v, by simpa using h1, h2⟩
theorem Rls.append : ∀ {ds es : List D} {vs us : List V}, Rls ρ K H ds vs → Rls ρ K H es us → Rls ρ K H (ds ++ es) (vs ++ us)
  | _, _, _, _, .nil, s => s
  | _, _, _, _, .cons h r, s => .cons h (Rls.append r s)
theorem Rls.take : ∀ {ds : List D} {vs : List V} (n : Nat), Rls ρ K H ds vs → Rls ρ K H (ds.take n) (vs.take n)
  | _, _, 0, _ => by simpa using Rls.nil
  | _, _, _ + 1, .nil => by simpa using Rls.nil
  | _, _, n + 1, .cons h r => by simpa using Rls.cons h (Rls.take n r)
theorem Rls.drop : ∀ {ds : List D} {vs : List V} (n : Nat), Rls ρ K H ds vs → Rls ρ K H (ds.drop n) (vs.drop n)
  | _, _, 0, r => by simpa using r
  | _, _, _ + 1, .nil => by simpa using Rls.nil
  | _, _, n + 1, .cons _ r => by simpa using Rls.drop n r
theorem Rls.set {d : D} {v : V} (h : Rl ρ K H d v) : ∀ {ds : List D} {vs : List V} (i : Nat), Rls ρ K H ds vs → Rls ρ K H (ds.set i d) (vs.set i v)
  | _, _, _, .nil => .nil
  | _, _, 0, .cons _ r => .cons h r
  | _, _, i + 1, .cons q r => .cons q (Rls.set h i r)
theorem Rls.reverse {ds : List D} {vs : List V} (r : Rls ρ K H ds vs) : Rls ρ K H ds.reverse vs.reverse := by
  induction ds generalizing vs with
  | nil => cases r; simpa using Rls.nil
  | cons d ds ih =>
    cases r with
    | cons h r =>
      simp only [List.reverse_cons]
      exact (ih r).append (.cons h .nil)
theorem Rls.one {d : D} {v : V} (h : Rl ρ K H d v) : Rls ρ K H [d] [v] := .cons h .nil
end
/-- an object that may change, and what the layer tracks -/
def ObR (ρ : Ro) (K : Fg) (H : Hp) (a : Addr) : Ob → Prop
  | .lst ds => ∃ vs, H a = some (.lst vs) ∧ Rls ρ K H ds vs
  | .fz ds => ∃ vs o, H a = some (.frz o (.lst vs)) ∧ Rls ρ K H ds vs
  | .dK ks ds => ∃ vs, H a = some (.dK (ks.zip vs)) ∧ ks.length = vs.length ∧ Rls ρ K H ds vs
  | .dT ks ds => ∃ vs, H a = some (.dT (ks.zip vs)) ∧ ks.length = vs.length ∧ Rls ρ K H ds vs
  | .zK ks ds => ∃ vs o, H a = some (.frz o (.dK (ks.zip vs))) ∧ ks.length = vs.length ∧ Rls ρ K H ds vs
  | .zT ks ds => ∃ vs o, H a = some (.frz o (.dT (ks.zip vs))) ∧ ks.length = vs.length ∧ Rls ρ K H ds vs
theorem ObR.some {ρ : Ro} {K : Fg} {H : Hp} {a : Addr} {o : Ob} (h : ObR ρ K H a o) : ∃ u, H a = some u := by
  cases o with
  | lst ds => obtain ⟨vs, e, _⟩ := h; exact ⟨_, e⟩
  | fz ds => obtain ⟨vs, o, e, _⟩ := h; exact ⟨_, e⟩
  | dK ks ds => obtain ⟨vs, e, _⟩ := h; exact ⟨_, e⟩
  | dT ks ds => obtain ⟨vs, e, _⟩ := h; exact ⟨_, e⟩
  | zK ks ds => obtain ⟨vs, o, e, _⟩ := h; exact ⟨_, e⟩
  | zT ks ds => obtain ⟨vs, o, e, _⟩ := h; exact ⟨_, e⟩
theorem ObR.mono {ρ ρ' : Ro} {K : Fg} {H H' : Hp} {a : Addr} {o : Ob} (h : ObR ρ K H a o) (k : Mo ρ ρ' H H') (e : H' a = H a) : ObR ρ' K H' a o := by
  cases o with
  | lst ds => obtain ⟨vs, q, r⟩ := h; exact ⟨vs, e.trans q, r.mo k⟩
  | fz ds => obtain ⟨vs, o, q, r⟩ := h; exact ⟨vs, o, e.trans q, r.mo k⟩
  | dK ks ds => obtain ⟨vs, q, z, r⟩ := h; exact ⟨vs, e.trans q, z, r.mo k⟩
  | dT ks ds => obtain ⟨vs, q, z, r⟩ := h; exact ⟨vs, e.trans q, z, r.mo k⟩
  | zK ks ds => obtain ⟨vs, o, q, z, r⟩ := h; exact ⟨vs, o, e.trans q, z, r.mo k⟩
  | zT ks ds => obtain ⟨vs, o, q, z, r⟩ := h; exact ⟨vs, o, e.trans q, z, r.mo k⟩
/-- the interpreter's heap and the layer's -/
structure SR (ρ : Ro) (K : Fg) (h : IH) (H : Hp) : Prop where
  obj : ∀ k o, h.get k = some o → ∃ a, ρ k = some a ∧ ObR ρ K H a o
  trk : ∀ k a, ρ k = some a → ∃ u, H a = some u
  inj : ∀ i j a, ρ i = some a → ρ j = some a → i = j
  top : ∀ k, h.n ≤ k → ρ k = none
theorem lookup_setL (k : Nat) (o : Ob) (j : Nat) : ∀ l : List (Nat × Ob), (setL k o l).lookup j = if j = k then (l.lookup k).map (fun _ => o) else l.lookup j
  | [] => by simp [setL]
  | (i, p) :: r => by
    have ih := lookup_setL k o j r
    unfold setL
    by_cases hi : i = k
    · subst hi
      simp only [beq_self_eq_true, if_true, List.lookup_cons]
      by_cases hj : j = i
      · subst hj; simp
      · have q : (j == i) = false := by simpa using hj
        simp [q, hj]
    · have q : (i == k) = false := by simpa using hi
      have q2 : (k == i) = false := by simpa using (fun e => hi e.symm)
      simp only [q, Bool.false_eq_true, if_false, List.lookup_cons, ih, q2]
      by_cases hj : j = i
      · subst hj
        have : ¬ j = k := hi
        simp [this]
      · have q3 : (j == i) = false := by simpa using hj
        simp only [q3]
theorem get_set (h : IH) (k j : Nat) (o : Ob) : (h.set k o).get j = if j = k then (h.get k).map (fun _ => o) else h.get j := lookup_setL k o j h.l
theorem get_push (h : IH) (j : Nat) (o : Ob) : (h.push o).get j = if j = h.n then some o else h.get j := by
  show List.lookup j ((h.n, o) :: h.l) = _
  rw [List.lookup_cons]
  by_cases hj : j = h.n
  · subst hj; simp
  · have q : (j == h.n) = false := by simpa using hj
    rw [q, if_neg hj]; rfl
def ext (ρ : Ro) (k : Nat) (a : Addr) : Ro := fun j => if j = k then some a else ρ j
section
variable {ρ : Ro} {K : Fg} {h : IH} {H : Hp}
theorem SR.le_ext (S : SR ρ K h H) (a : Addr) : Le ρ (ext ρ h.n a) := fun k b e => by
  unfold ext
  by_cases hk : k = h.n
  · rw [hk, S.top h.n (Nat.le_refl _)] at e; cases e
  · rw [if_neg hk]; exact e
theorem SR.stp_push (S : SR ρ K h H) {p : Addr} {o : HO} (hp : H p = none) : Stp ρ (ext ρ h.n p) H (upd H p o) := by
  have n : Stp ρ ρ H (upd H p o) := .new hp
  refine ⟨S.le_ext p, fun k a z => ?_, n.tup, n.frz, n.oth, n.gr⟩
  unfold ext at z
  by_cases hk : k = h.n
  · rw [if_pos hk] at z; cases z; exact .inr hp
  · rw [if_neg hk] at z; exact .inl z
/-- nothing of the interpreter's changes -/
theorem SR.same (S : SR ρ K h H) {H' : Hp} (k : Stp ρ ρ H H') (e : ∀ a u, H a = some u → H' a = some u) : SR ρ K h H' := by
  refine ⟨fun j o q => ?_, fun j a q => ?_, S.inj, S.top⟩
  · obtain ⟨a, r, x⟩ := S.obj j o q
    obtain ⟨u, hu⟩ := x.some
    exact ⟨a, r, x.mono k.mo ((e a u hu).trans hu.symm)⟩
  · obtain ⟨u, hu⟩ := S.trk j a q
    exact ⟨u, e a u hu⟩
theorem SR.new (S : SR ρ K h H) {p : Addr} {o : HO} (hp : H p = none) : SR ρ K h (upd H p o) :=
  S.same (.new hp) fun a u e => by rw [upd_ne (ne_of_none e hp)]; exact e
/-- a new object that may change -/
theorem SR.push (S : SR ρ K h H) {p : Addr} {o : HO} {ob : Ob} (hp : H p = none) (x : ObR (ext ρ h.n p) K (upd H p o) p ob) : SR (ext ρ h.n p) K (h.push ob) (upd H p o) := by
  have l := S.le_ext p
  have kk : Stp ρ (ext ρ h.n p) H (upd H p o) := S.stp_push hp
  refine ⟨fun j q e => ?_, fun j a e => ?_, fun i j a e1 e2 => ?_, fun j hj => ?_⟩
  · rw [get_push] at e
    by_cases hj : j = h.n
    · rw [if_pos hj] at e
      cases e
      exact ⟨p, by unfold ext; rw [if_pos hj], x⟩
    · rw [if_neg hj] at e
      obtain ⟨a, r, y⟩ := S.obj j q e
      obtain ⟨u, hu⟩ := y.some
      exact ⟨a, l _ _ r, y.mono kk.mo (upd_ne (ne_of_none hu hp))⟩
  · unfold ext at e
    by_cases hj : j = h.n
    · rw [if_pos hj] at e; cases e; exact ⟨o, upd_same⟩
    · rw [if_neg hj] at e
      obtain ⟨u, hu⟩ := S.trk j a e
      exact ⟨u, by rw [upd_ne (ne_of_none hu hp)]; exact hu⟩
  · unfold ext at e1 e2
    by_cases h1 : i = h.n <;> by_cases h2 : j = h.n
    · rw [h1, h2]
    · rw [if_pos h1] at e1; rw [if_neg h2] at e2; cases e1
      obtain ⟨u, hu⟩ := S.trk j _ e2
      rw [hp] at hu; cases hu
    · rw [if_neg h1] at e1; rw [if_pos h2] at e2; cases e2
      obtain ⟨u, hu⟩ := S.trk i _ e1
      rw [hp] at hu; cases hu
    · rw [if_neg h1] at e1; rw [if_neg h2] at e2
      exact S.inj i j a e1 e2
  · have hj' : h.n + 1 ≤ j := hj
    unfold ext
    rw [if_neg (by omega)]
    exact S.top j (by omega)
/-- an object that may change is written -/
theorem SR.write (S : SR ρ K h H) {k : Nat} {a : Addr} {o : HO} {ob ob' : Ob} (hk : h.get k = some ob) (ha : ρ k = some a) (hm : Mut (H a)) (x : ObR ρ K (upd H a o) a ob') : SR ρ K (h.set k ob') (upd H a o) := by
  have kk : Stp ρ ρ H (upd H a o) := .wr ha hm
  refine ⟨fun j q e => ?_, fun j b e => ?_, S.inj, S.top⟩
  · rw [get_set] at e
    by_cases hj : j = k
    · rw [if_pos hj, hk] at e
      cases e
      exact ⟨a, by rw [hj]; exact ha, x⟩
    · rw [if_neg hj] at e
      obtain ⟨b, r, y⟩ := S.obj j q e
      have hb : b ≠ a := fun z => hj (S.inj j k a (z ▸ r) ha)
      exact ⟨b, r, y.mono kk.mo (upd_ne hb)⟩
  · obtain ⟨u, hu⟩ := S.trk j b e
    by_cases hb : b = a
    · exact ⟨o, by rw [hb]; exact upd_same⟩
    · exact ⟨u, by rw [upd_ne hb]; exact hu⟩
end
/-- something that is not the interpreter's is written -/
theorem Mo.off {ρ : Ro} {H : Hp} {p : Addr} {o : HO} (hm : Mut (H p)) : Mo ρ ρ H (upd H p o) := by
  have ne : ∀ {b : Addr} {u : HO}, H b = some u → ¬ Mut (some u) → b ≠ p := fun e nm z => by
    rw [← z, e] at hm
    exact nm hm
  refine ⟨fun _ _ z => z, fun b xs e => ?_, fun b q u e => ?_⟩
  · rw [upd_ne (ne e fun z => z)]; exact e
  · rw [upd_ne (ne e fun z => z)]; exact e
theorem SR.off {ρ : Ro} {K : Fg} {h : IH} {H : Hp} (S : SR ρ K h H) {p : Addr} {o : HO} (hp : ∀ k, ρ k ≠ some p) (hm : Mut (H p)) : SR ρ K h (upd H p o) := by
  refine ⟨fun j q e => ?_, fun j b e => ?_, S.inj, S.top⟩
  · obtain ⟨b, r, y⟩ := S.obj j q e
    have hb : b ≠ p := fun z => hp j (z ▸ r)
    exact ⟨b, r, y.mono (.off hm) (upd_ne hb)⟩
  · obtain ⟨u, hu⟩ := S.trk j b e
    have hb : b ≠ p := fun z => hp j (z ▸ e)
    exact ⟨u, by rw [upd_ne hb]; exact hu⟩
theorem Stp.off {ρ ρ' : Ro} {H H1 : Hp} {p : Addr} {o : HO} (k : Stp ρ ρ' H H1) (hp : H p = none) : Stp ρ ρ' H (upd H1 p o) :=
  ⟨k.le, k.nw, fun b xs e => by rw [upd_ne (ne_of_none e hp)]; exact k.tup b xs e, fun b q u e => by rw [upd_ne (ne_of_none e hp)]; exact k.frz b q u e,
    fun b u e n => by rw [upd_ne (ne_of_none e hp)]; exact k.oth b u e n, fun c e => k.gr c (upd_none e)⟩
theorem Stp.away {ρ ρ' : Ro} {H H' : Hp} {p : Addr} {u : HO} (k : Stp ρ ρ' H H') (hp : H p = some u) (n : ∀ j, ρ j ≠ some p) : ∀ j, ρ' j ≠ some p := fun j z => by
  rcases k.nw j p z with z | z
  · exact n j z
  · rw [z] at hp; cases hp
theorem SR.away {ρ : Ro} {K : Fg} {h : IH} {H : Hp} (S : SR ρ K h H) {p : Addr} (hp : H p = none) : ∀ k, ρ k ≠ some p := fun k z => by
  obtain ⟨u, hu⟩ := S.trk k p z
  rw [hp] at hu; cases hu
/-- the slots -/
structure SlR (ρ : Ro) (K : Fg) (H : Hp) (σI : Sig) (σ : L2.St) : Prop where
  len : σI.length = σ.length
  at_ : ∀ (i : Nat) (d : D), σI[i]? = some (some d) → ∃ v, σ[i]? = some (some v) ∧ Rl ρ K H d v
theorem SlR.mono {ρ ρ' : Ro} {K : Fg} {H H' : Hp} {σI : Sig} {σ : L2.St} (s : SlR ρ K H σI σ) (k : Stp ρ ρ' H H') : SlR ρ' K H' σI σ :=
  ⟨s.len, fun i d e => let ⟨v, h1, h2⟩ := s.at_ i d e; ⟨v, h1, h2.mono k⟩⟩
theorem SlR.set {ρ : Ro} {K : Fg} {H : Hp} {σI : Sig} {σ : L2.St} {d : D} {v : V} (s : SlR ρ K H σI σ) (i : Nat) (r : Rl ρ K H d v) : SlR ρ K H (σI.set i (some d)) (σ.set i (some v)) := by
  refine ⟨by simpa using s.len, fun j e h => ?_⟩
  by_cases hj : j = i
  · subst hj
    by_cases hl : j < σI.length
    · rw [List.getElem?_set_self hl] at h
      cases h
      exact ⟨v, List.getElem?_set_self (by rw [← s.len]; exact hl), r⟩
    · rw [List.getElem?_eq_none (by simpa using hl)] at h; cases h
  · rw [List.getElem?_set_ne (Ne.symm hj)] at h
    obtain ⟨u, h1, h2⟩ := s.at_ j e h
    exact ⟨u, by rw [List.getElem?_set_ne (Ne.symm hj)]; exact h1, h2⟩
theorem SlR.clr {ρ : Ro} {K : Fg} {H : Hp} {σI : Sig} {σ : L2.St} (s : SlR ρ K H σI σ) (i : Nat) : SlR ρ K H (σI.set i none) (σ.set i none) := by
  refine ⟨by simpa using s.len, fun j e h => ?_⟩
  by_cases hj : j = i
  · subst hj
    by_cases hl : j < σI.length
    · rw [List.getElem?_set_self hl] at h; cases h
    · rw [List.getElem?_eq_none (by simpa using hl)] at h; cases h
  · rw [List.getElem?_set_ne (Ne.symm hj)] at h
    obtain ⟨u, h1, h2⟩ := s.at_ j e h
    exact ⟨u, by rw [List.getElem?_set_ne (Ne.symm hj)]; exact h1, h2⟩
theorem SlR.wipe {ρ : Ro} {K : Fg} {H : Hp} {σI : Sig} {σ : L2.St} (s : SlR ρ K H σI σ) : ∀ vs : List Nat, SlR ρ K H (wipeI σI vs) (L2.wipe σ vs)
  | [] => s
  | v :: vs => (SlR.wipe s vs).clr v
/-- what the interpreter's result tells of a reading -/
def Post {α β : Type} (Rv : Ro → Hp → α → β → Prop) (K : Fg) (ρ : Ro) (H : Hp) (Q : β → Hp → Prop) : R α → Prop
  | .ok d h' => ∀ ρ' H' v, Stp ρ ρ' H H' → SR ρ' K h' H' → Rv ρ' H' d v → Q v H'
  | .bad => False
theorem Post.shift {α β : Type} {Rv : Ro → Hp → α → β → Prop} {K : Fg} {ρ ρ' : Ro} {H H' : Hp} {Q : β → Hp → Prop} {r : R α} (p : Post Rv K ρ H Q r) (k : Stp ρ ρ' H H') : Post Rv K ρ' H' Q r := by
  cases r with
  | bad => exact p
  | ok d h => exact fun ρ2 H2 v k2 s r => p ρ2 H2 v (k.trans k2) s r
theorem Post.bd {α β γ δ : Type} {Rv : Ro → Hp → α → β → Prop} {Rw : Ro → Hp → γ → δ → Prop} {K : Fg} {ρ : Ro} {H : Hp} {Q : δ → Hp → Prop} {r : R α} {f : α → IH → R γ} (h : Post Rw K ρ H Q (r.bd f)) :
    Post Rv K ρ H (fun v H' => ∃ ρ' d h', Stp ρ ρ' H H' ∧ SR ρ' K h' H' ∧ Rv ρ' H' d v ∧ Post Rw K ρ' H' Q (f d h')) r := by
  cases r with
  | bad => exact h
  | ok d h' =>
    intro ρ' H' v k s rv
    refine ⟨ρ', d, h', k, s, rv, ?_⟩
    have h2 : Post Rw K ρ H Q (f d h') := h
    exact h2.shift k
/-- the reading of an expression, a test, an argument list -/
def RvE (K : Fg) : Ro → Hp → D → V → Prop := fun ρ H d v => Rl ρ K H d v
def RvT : Ro → Hp → Bool → Bool → Prop := fun _ _ b c => b = c
def RvA (K : Fg) : Ro → Hp → List D → List V → Prop := fun ρ H d v => Rls ρ K H d v
def rd {α β : Type} (Rv : Ro → Hp → α → β → Prop) (K : Fg) (ev : Sig → IH → R α) : L2.St → Hp → (β → Hp → Prop) → Prop :=
  fun σ H Q => ∃ ρ h σI, SR ρ K h H ∧ SlR ρ K H σI σ ∧ Post Rv K ρ H Q (ev σI h)
abbrev tE (K : Fg) (ev : Sig → IH → R D) : TE := rd (RvE K) K ev
abbrev tT (K : Fg) (ev : Sig → IH → R Bool) : TT := rd RvT K ev
abbrev tA (K : Fg) (ev : Sig → IH → R (List D)) : TA := rd (RvA K) K ev
end VI

/-! VIcg: defs that run where no repr is under way. -/
namespace VI
open PySem PySem.Spec PyProof.Rows L2

/-- a def of the text, called where no repr is under way -/
structure FnG (P : Program) (w : World) (K : Fg) (mg : Str → Option Value) (base : Heap) (CX : CXT) (k : Nat) (f : Addr) (fd : FuncData) (ps : List Str) (sp : Sp) : Prop where
  len : ∀ vs H Q E, sp vs H Q E → vs.length = ps.length
  run : ∀ {A : Around} {outer : List Env} {s : Shared} {H : Hp} {args : Args} {us : List Value} {vs : List V} {Q : VK} {E : XK}, Room k A → A.guards = some [] → Env0 P w K mg base A outer s H → BindsTo s fd args (ps.zip us) →
    Vals vs us → sp vs H Q E → codeAny (model P w) A (.call (.ref f) args) (CR CX outer P w H s Q E) s
section
variable {CX : CXT} {P : Program} {w : World} {K : Fg} {mg : Str → Option Value} {base : Heap} {k : Nat} {f : Addr} {N ps : List Str} {sp : Sp}
theorem fng_of {nm qual : Str} {params : Arguments} {body : List Stmt} {scope : Scope} {dV kV doc pm cdv ct oc : Value} {an od : Option Addr} {osl : Array (Option Value)}
    (lk : K.lookup f = some ⟨oc, od, .func (PySem.W.fnOf nm qual params body scope dV kV doc pm an cdv ct), osl⟩) (cd : PySem.W.codeIn K cdv qual = true) (S : FnScope N ps scope) (len : ∀ vs H Q E, sp vs H Q E → vs.length = ps.length)
    (bd : ∀ (A : Around) (outer : List Env) (s : Shared) (H : Hp) (vs : List V) (Q : VK) (E : XK), Room k (A.deeper (envOfC qual scope s.heap.objs.size f cdv)) → A.guards = some [] → sp vs H Q E →
      ∃ t, PSs (cxOf CX P w K mg base N qual scope f cdv A outer s H E) body t ∧ t { nx := fun _ G => Q .non G, rt := Q } (L2.start N vs) H) :
    FnG P w K mg base CX (k + 1) f (PySem.W.fnOf nm qual params body scope dV kV doc pm an cdv ct) ps sp where
  len := len
  run := by
    intro A outer s H args us vs Q E room gu ev bn rel pr
    have old : ∀ b o, base.get? b = some o → s.heap.get? b = some o := fun b o e => (ev.bs b o e).1
    have kin : K.In s.heap := ev.mod.kin.keeps old
    have nolim : s.heap.NoLimit := ev.mod.nolimit.keeps old
    have kinds : ∀ q ∈ ps.zip us, scope.names.lookup q.1 = some .local ∨ scope.names.lookup q.1 = some .cell ∧ ((cellsFrom (s.heap.objs.size + 1) scope.names []).lookup q.1).isSome = true := by
      rintro ⟨y, u⟩ hy
      exact (S.par y (List.of_mem_zip hy).1).imp id fun c => ⟨c, PySem.W.cellsFrom_some _ _ _ (.inl c)⟩
    obtain ⟨t, ps1, ps2⟩ := bd A outer s H vs Q E (room.deeper _) gu pr
    refine codeAny_call_function room.depth (kin _ _ lk) rfl S.co S.gen rfl (PySem.W.codeRec_of kin cd) (bn _ _ _ _ (wpAny_newFunctionEnv_cells S.kind kinds fun env eenv s1 inn => ?_))
    subst eenv
    have J : Inv (cxOf CX P w K mg base N qual scope f cdv A outer s H E) [] (L2.start N vs) H s1 := inv_start S room.hd ev (len _ _ _ _ pr) rel inn
    have stop : ∀ {τ : L2.St} {G : Hp} {v : V} {u : Value} {s2 : Shared}, Inv (cxOf CX P w K mg base N qual scope f cdv A outer s H E) [] τ G s2 → RelV v u → Q v G → CE outer P w H s Q u s2 :=
      fun L rv q => ⟨_, _, L.os, L.bare, L.base, L.hok, rv, q⟩
    refine ⟨nolim.keeps inn.toInCall.keep, codeAny_func (wpAny_mono (ps1.run [] s1 _ H _ J ps2) (fun fl s2 z => ?_) fun _ _ z => z)⟩
    match fl, z with
    | .ret u, ⟨v, τ, G, L, rv, q⟩ => exact stop L rv q
    | .next, ⟨τ, G, L, q⟩ => exact stop (v := .non) (u := .none) L rfl q
    | .brk, ⟨_, _, _, q⟩ => exact q.elim
    | .cont, ⟨_, _, _, q⟩ => exact q.elim
theorem Fun.okG {x qual : Str} {st : Stmt} {fd : FuncData} (F : Fun K x qual st f fd) (S : FnScope N ps (defScope st)) (len : ∀ vs H Q E, sp vs H Q E → vs.length = ps.length)
    (bd : ∀ (cdv : Value) (A : Around) (outer : List Env) (s : Shared) (H : Hp) (vs : List V) (Q : VK) (E : XK), Room k (A.deeper (envOfC qual (defScope st) s.heap.objs.size f cdv)) → A.guards = some [] → sp vs H Q E →
      ∃ t, PSs (cxOf CX0 P w K mg base N qual (defScope st) f cdv A outer s H E).nox (defBody st) t ∧ t { nx := fun _ G => Q .non G, rt := Q } (L2.start N vs) H) : FnG P w K mg base CX0 (k + 1) f fd ps sp := by
  obtain ⟨_, _, _, _, _, _, cdv, _, _, rfl, lk, cd⟩ := F.ex
  refine fng_of lk cd S len fun A outer s H vs Q E room gu pr => ?_
  obtain ⟨t, a, b⟩ := bd cdv A outer s H vs Q E room gu pr
  exact ⟨t, a.nox, b⟩
end
section
variable {X : Cx} {CX : CXT} {k n : Nat} {f : Addr} {fd : FuncData} {ps ks : List Str} {sp : Sp} {E : XK} {x : Str} {p pos : Pos} {e : Expr} {es : List Expr} {kws : List Keyword} {t tk : TA} {g : List Value → List Value → List Value} {gV : List V → List V → List V}
/-- the callee's end is the caller's -/
theorem after_call {pins : List (Addr × Obj)} {σ : L2.St} {H : Hp} {s : Shared} {Q : VK} {us : List Value} {kw : List (Str × Value)} (I : Inv X pins σ H s) (hx : Passes CX X E) (c : codeAny (model X.prog X.w) X.A (.call (.ref f) ⟨us, kw⟩) (CR CX X.stack X.prog X.w H s Q E) s) :
    wpAny (model X.prog X.w) X.A (call (.ref f) us kw) (EP X pins σ Q) X.xe s := by
  refine wpAny_call (codeAny_mono c fun r s2 z => ?_)
  match r, z with
  | .error u, z => exact hx pins σ H s u s2 I z
  | .ok (.ret u), z => exact I.after z
  | .ok .next, z => exact z.elim
  | .ok .brk, z => exact z.elim
  | .ok .cont, z => exact z.elim
theorem g_call (F : FnG X.prog X.w X.K X.mg X.base CX k f fd ps sp) (room : Room k X.A) (gu : X.A.guards = some []) (hg : Gl X x) (hm : X.mg x = some (.ref f)) (kp : PySem.W.keepIn X.K (.ref f) = true) (bn : Binds X.K fd ps []) (hx : Passes CX X E) (ha : PA X (e :: es) t) (hdb : (x == ("__debug__" : Str)) = false)
    (he : starEach (e :: es) X.env = (false, eval e X.env) :: starEach es X.env) (hpl : (backTo pos (starEach es X.env)).any (·.1) = false) : PE X (.Call (.Name x p) (e :: es) [] pos) (fun σ H Q => t σ H fun vs G => sp vs G Q E) := by
  constructor
  intro pins s σ H Q I z
  refine wpAny_Call_Name_kw (ld_glob I hg hm (PySem.W.callWith_K (h₀ := X.base) I.ok.mod.kin kp (thn (ha.run pos pins s σ H _ I z) ?_) he hpl) hdb)
  rintro us s1 ⟨vs, G, J, rel, q⟩
  refine ⟨J.kIn, after_call J hx (F.run room gu J.env0 ?_ rel q)⟩
  have bb := bn s1 us J.kIn (by rw [List.append_nil, ← rel.length]; exact F.len _ _ _ _ q)
  rwa [List.append_nil] at bb
theorem g_call0 (F : FnG X.prog X.w X.K X.mg X.base CX k f fd ps sp) (room : Room k X.A) (gu : X.A.guards = some []) (hg : Gl X x) (hm : X.mg x = some (.ref f)) (kp : PySem.W.keepIn X.K (.ref f) = true) (bn : Binds X.K fd ps []) (hx : Passes CX X E) (hdb : (x == ("__debug__" : Str)) = false) :
    PE X (.Call (.Name x p) [] [] pos) (fun _ H Q => sp [] H Q E) := by
  constructor
  intro pins s σ H Q I z
  have bb := bn s [] I.kIn (by have := F.len _ _ _ _ z; simpa using this)
  exact wpAny_Call_Name_kw (ld_glob I hg hm (PySem.W.callWith_K0 I.kIn kp (after_call I hx (F.run room gu I.env0 bb .nil z))) hdb)
theorem g_callN (F : FnG X.prog X.w X.K X.mg X.base CX k f fd ps sp) (room : Room k X.A) (gu : X.A.guards = some []) (hg : Gl X x) (hm : X.mg x = some (.ref f)) (kp : PySem.W.keepIn X.K (.ref f) = true) (bn : KBn X.K fd ps n ks g gV) (hx : Passes CX X E) (ha : PA X (e :: es) t) (hkw : PK X kws tk)
    (hall : (backToKw pos (keywordEach kws X.env)).all (·.1.isSome) = true) (hks : (backToKw pos (keywordEach kws X.env)).filterMap (·.1) = ks) (hdb : (x == ("__debug__" : Str)) = false) (he : starEach (e :: es) X.env = (false, eval e X.env) :: starEach es X.env)
    (hpl : ((backTo pos (starEach (e :: es) X.env)).any (·.1) || (backToKw pos (keywordEach kws X.env)).any (·.1.isNone)) = false) :
    PE X (.Call (.Name x p) (e :: es) kws pos) (fun σ H Q => t σ H fun vs H1 => tk σ H1 fun zs H2 => vs.length = n ∧ zs.length = ks.length ∧ sp (gV vs zs) H2 Q E) := by
  constructor
  intro pins s σ H Q I z
  refine wpAny_Call_Name_kw (ld_glob I hg hm (PySem.W.callWith_KW (h₀ := X.base) I.ok.mod.kin kp hall (thn (ha.run pos pins s σ H _ I z) ?_) hpl he) hdb)
  rintro us s1 ⟨vs, H1, J, rel, q⟩
  refine thn (hkw.run pos pins s1 σ H1 _ J q) ?_
  rintro ws s2 ⟨zs, H2, J2, rel2, l1, l2, q2⟩
  rw [hks]
  exact ⟨J2.kIn, after_call J2 hx (F.run room gu J2.env0 (bn.to s2 us ws J2.kIn (rel.length.symm.trans l1) (rel2.length.symm.trans l2)) (bn.rel rel rel2) q2)⟩
end
/-- the law's call: the script alone is tracked, or nothing -/
theorem law_callG {P : Program} {w : World} {K : Fg} {mg mb : Str → Option Value} {CX : CXT} {k : Nat} {fa a : Addr} {fd : FuncData} {x : Str} {sp : Sp} {s₁ : Shared} {vs : List Value} {ns : List Int} (kin : K.In s₁.heap) (gns : s₁.heap.Ns mainGlobals mg) (bns : s₁.heap.Ns builtinsNs mb) (bbt : ∀ x : Str, x ≠ "__name__" → mb x = bootBuiltins x)
    (lim : s₁.heap.NoLimit) (gen : s₁.gens = #[]) (ha : s₁.heap.get? a = some { cls := .type "list", data := .seq vs.toArray }) (hi : IntsAre vs ns) (hl : ns.length ≤ sizeLine) (room : Room k callerA) (F : ∀ base : Heap, FnG P w K mg base CX k fa fd [x] sp)
    (hbind : ∀ (s : Shared) (u : Value), BindsTo s fd ⟨[u], []⟩ [(x, u)]) (hsp : ∀ H : Hp, Only H → SqL K H a (ns.map V.int) → sp [.ref a] H (fun v _ => v = .bl true) fun _ _ _ => False) (hCX : ∀ H u s', CX [] H s₁ (fun _ _ _ => False) u s' → False) :
    codeAny (model P w) callerA (.call (.ref fa) ⟨[.ref a], []⟩) (fun r s' => r = .ok (.ret (.bool true)) ∧ OldK s₁.heap s'.heap ∧ s'.os = s₁.os ∧ AllBare s'.gens) s₁ := by
  have go : ∀ H : Hp, Only H → SqL K H a (ns.map V.int) → HOk P w H s₁.heap → (∀ b u, H b = some u → b = a ∧ K.lookup a = none) → codeAny (model P w) callerA (.call (.ref fa) ⟨[.ref a], []⟩) (fun r s' => r = .ok (.ret (.bool true)) ∧ OldK s₁.heap s'.heap ∧ s'.os = s₁.os ∧ AllBare s'.gens) s₁ := by
    intro H only sq ok at_
    have clear : ∀ {b : Addr} {o : Obj}, s₁.heap.get? b = some o → (∀ its n, o.data ≠ .seq its n) → H b = none := by
      intro b o e nd
      rcases hb : H b with _ | u
      · rfl
      · obtain ⟨rfl, _⟩ := at_ b u hb
        rw [ha] at e
        cases e
        exact absurd rfl (nd _ _)
    have ns_ : ∀ {b : Addr} {m : Str → Option Value}, s₁.heap.Ns b m → (hidT s₁.heap H).Ns b m := by
      rintro b m ⟨o, es, ep, e, d, r⟩
      exact ⟨o, es, ep, hidT_get e (clear e fun its n z => by rw [d] at z; cases z), d, r⟩
    have kin_ : K.In (hidT s₁.heap H) := fun b o e => by
      refine hidT_get (kin b o e) ?_
      rcases hb : H b with _ | u
      · rfl
      · obtain ⟨rfl, no⟩ := at_ b u hb
        rw [no] at e
        cases e
    obtain ⟨mc, l1, l2⟩ := lim
    have ev : Env0 P w K mg (hidT s₁.heap H) callerA [] s₁ H :=
      ⟨rfl, ⟨kin_, ns_ gns, ⟨mb, ns_ bns, bbt⟩, ⟨mc, ns_ l1, l2⟩⟩, fun b o e => of_hidT e, Nat.le_of_eq (hidT_size _ _), trivial, (fun b hb => nomatch hb), ok, .of_eq gen⟩
    refine codeAny_mono ((F _).run (us := [.ref a]) (vs := [.ref a]) room rfl ev (hbind s₁ (.ref a)) (.cons rfl .nil) (hsp H only sq)) fun r s2 z => ?_
    match r, z with
    | .error u, z => exact (hCX H u s2 z).elim
    | .ok .next, z => exact z.elim
    | .ok .brk, z => exact z.elim
    | .ok .cont, z => exact z.elim
    | .ok (.ret u), ⟨v, G, os, bare, un, ok2, rv, q⟩ =>
      cases (show v = V.bl true from q)
      cases (show u = Value.bool true from rv)
      refine ⟨rfl, OldK.of_keep fun b o e => ?_, os, bare⟩
      rcases only b with c | ⟨ob, xs, c⟩
      · exact un.keep b o e c (fun z => nomatch z) (fun z => nomatch z)
      · obtain ⟨e1, _⟩ := ok b _ c
        obtain ⟨e2, _⟩ := ok2 b _ (un.frzs b ob _ c)
        rw [e1] at e
        cases e
        exact e2
  have rv := vals_ints hi
  rcases hk : K.lookup a with _ | o
  · let ob : Obj := { cls := .type "list", data := .seq vs.toArray }
    let H : Hp := fun b => if b = a then some (.frz ob (.lst (ns.map V.int))) else none
    have at0 : H a = some (.frz ob (.lst (ns.map V.int))) := if_pos rfl
    have cs : ∀ b u, H b = some u → b = a ∧ u = .frz ob (.lst (ns.map V.int)) := by
      intro b u e
      by_cases hb : b = a
      · rw [hb, at0] at e; cases e; exact ⟨hb, rfl⟩
      · rw [show H b = none from if_neg hb] at e; cases e
    refine go H (fun b => ?_) (.inl (.inr ⟨ob, at0⟩)) (fun b u e => ?_) fun b u e => ⟨(cs b u e).1, hk⟩
    · rcases hb : H b with _ | u
      · exact .inl rfl
      · obtain ⟨_, rfl⟩ := cs b u hb
        exact .inr ⟨_, _, rfl⟩
    · obtain ⟨rfl, rfl⟩ := cs b u e
      exact ⟨ha, by simpa using hl, vs, _, rv, ha⟩
  · have e := kin a o hk
    rw [ha] at e
    cases e
    refine go (fun _ => none) (fun _ => .inl rfl) (.inr ⟨_, vs.toArray, _, hk, rfl, rfl, rfl, ?_, by simpa using rv⟩) (fun b u z => nomatch z) fun b u z => nomatch z
    rw [List.size_toArray, hi.length]
    exact hl
end VI

/-! VIc: freezing, and the operations by values. -/
namespace VI
open PySem PySem.Spec PyProof.Rows L2

/-- a new list, at once frozen -/
def FzQ (Q : VK) : VK := fun v H => ∃ a xs, v = .ref a ∧ H a = some (.lst xs) ∧ ∀ o, Q v (upd H a (.frz o (.lst xs)))
section
variable {X : Cx} {pins : List (Addr × Obj)} {σ : L2.St} {H : Hp} {s : Shared} {Q : VK} {u : Value}
theorem inv_fz {a : Addr} {xs : List V} (I : Inv X pins σ H s) (ha : H a = some (.lst xs)) : ∃ o, Inv X pins σ (upd H a (.frz o (.lst xs))) s := by
  have hx : ObjOk X.prog X.w H s.heap a (.lst xs) := I.hok a _ ha
  obtain ⟨z, its, n, r, e⟩ := id hx
  refine ⟨_, I.write (x := a) (e := a) (h' := s.heap) (t' := s.toks) (o := .frz { cls := .type "list", data := .seq its.toArray n } (.lst xs)) (by rw [ha]; trivial) (.inl rfl) (fun b u _ q => q) ⟨_, e⟩ ⟨e, z, its, n, r, e⟩⟩
theorem inv_fzD {a : Addr} {u : HO} (I : Inv X pins σ H s) (ha : H a = some u) (hm : Mut (some u)) (hne : ∀ C dx fs, u ≠ .ins C dx fs)
    (hst : ∀ (H1 H2 : Hp), (∀ b xs, H1 b = some (.tup xs) → H2 b = some (.tup xs)) → ObjOk X.prog X.w H1 s.heap a u → ObjOk X.prog X.w H2 s.heap a u) : ∃ o, Inv X pins σ (upd H a (.frz o u)) s := by
  have hx : ObjOk X.prog X.w H s.heap a u := I.hok a _ ha
  obtain ⟨o, e⟩ : ∃ o, s.heap.get? a = some o := by
    cases u with
    | lst xs => obtain ⟨_, _, _, _, e⟩ := hx; exact ⟨_, e⟩
    | dK kvs => obtain ⟨_, _, _, _, o, _, _, e, _⟩ := hx; exact ⟨_, e⟩
    | dT kvs => obtain ⟨_, _, _, _, o, _, _, e, _⟩ := hx; exact ⟨_, e⟩
    | set S n => obtain ⟨o, _, _, _, e, _⟩ := hx; exact ⟨_, e⟩
    | ins C dx fs => exact absurd rfl (hne C dx fs)
    | ext φ => obtain ⟨_, ⟨_, e⟩, _⟩ := hx; exact ⟨_, e⟩
    | tup xs => exact False.elim hm
    | own x => exact False.elim hm
    | xd fs => exact False.elim hm
    | met f x => exact False.elim hm
    | rng lo hi => exact False.elim hm
    | frz o u => exact False.elim hm
    | tbl ps => exact False.elim hm
  refine ⟨o, I.write (x := a) (e := a) (h' := s.heap) (t' := s.toks) (o := .frz o u) (by rw [ha]; exact hm) (.inl rfl) (fun b u _ q => q) ⟨_, e⟩ ⟨e, ?_⟩⟩
  refine hst H _ (fun b xs q => ?_) hx
  have hb : b ≠ a := by
    intro z
    rw [z, ha] at q
    cases q
    exact hm
  rw [upd_ne hb]
  exact q
theorem EP.fz (h : EP X pins σ (FzQ Q) u s) : EP X pins σ Q u s := by
  obtain ⟨v, H', I, r, a, xs, rfl, ha, q⟩ := h
  obtain ⟨o, J⟩ := inv_fz I ha
  exact ⟨_, _, J, r, q o⟩
theorem PE.imp {e : Expr} {t t' : TE} (h : PE X e t) (k : ∀ σ H Q, t' σ H Q → t σ H Q) : PE X e t' := ⟨fun pins s σ H Q I q => h.run pins s σ H Q I (k σ H Q q)⟩
theorem PT.imp {e : Expr} {t t' : TT} (h : PT X e t) (k : ∀ σ H Q, t' σ H Q → t σ H Q) : PT X e t' := ⟨fun pins s σ H Q I q => h.run pins s σ H Q I (k σ H Q q)⟩
theorem PW.imp {e : Expr} {t t' : TT} (h : PW X e t) (k : ∀ σ H Q, t' σ H Q → t σ H Q) : PW X e t' := ⟨fun wh pins s σ H Q I q => h.run wh pins s σ H Q I (k σ H Q q)⟩
theorem PA.imp {e : List Expr} {t t' : TA} (h : PA X e t) (k : ∀ σ H Q, t' σ H Q → t σ H Q) : PA X e t' := ⟨fun pos pins s σ H Q I q => h.run pos pins s σ H Q I (k σ H Q q)⟩
theorem PS.imp {e : Stmt} {t t' : TS} (h : PS X e t) (k : ∀ D σ H, t' D σ H → t D σ H) : PS X e t' := ⟨fun pins s σ H D I q => h.run pins s σ H D I (k D σ H q)⟩
theorem PSs.imp {e : List Stmt} {t t' : TS} (h : PSs X e t) (k : ∀ D σ H, t' D σ H → t D σ H) : PSs X e t' := ⟨fun pins s σ H D I q => h.run pins s σ H D I (k D σ H q)⟩
theorem OpR.imp {f : Value → Value → Sem Value} {r r' : R2} (h : OpR X f r) (k : ∀ x y H Q, r' x y H Q → r x y H Q) : OpR X f r' := fun pins s σ H x y v u Q I rx ry q => h pins s σ H x y v u Q I rx ry (k x y H Q q)
theorem PE.fz {e : Expr} {t : TE} (h : PE X e t) : PE X e (fun σ H Q => t σ H (FzQ Q)) := ⟨fun pins s σ H Q I q => thn (h.run pins s σ H _ I q) fun _ _ z => EP.fz z⟩
theorem OpR.fz {f : Value → Value → Sem Value} {r : R2} (h : OpR X f r) : OpR X f (fun x y H Q => r x y H (FzQ Q)) := fun pins s σ H x y v u Q I rx ry q => thn (h pins s σ H x y v u _ I rx ry q) fun _ _ z => EP.fz z
theorem CallR.fz {f : Value} {r : List V → Hp → VK → Prop} (h : CallR X f r) : CallR X f (fun x H Q => r x H (FzQ Q)) := fun pins s σ H x u Q I rx q => thn (h pins s σ H x u _ I rx q) fun _ _ z => EP.fz z
end

section
variable {K : Fg} {ρ : Ro} {H : Hp} {h : IH} {Q : VK} {d : D} {v : V}
/-- the result is there, nothing has changed -/
theorem post_same (p : Post (RvE K) K ρ H Q (.ok d h)) (S : SR ρ K h H) (r : Rl ρ K H d v) : Q v H := p ρ H v (.refl ρ H) S r
/-- a new tuple -/
theorem post_tup {ds : List D} {xs : List V} (p : Post (RvE K) K ρ H Q (.ok (.tup ds) h)) (S : SR ρ K h H) (r : Rls ρ K H ds xs) : ∀ a, H a = none → Q (.ref a) (upd H a (.tup xs)) := fun a ha =>
  p ρ _ _ (.new ha) (S.new ha) (.tup upd_same (r.mono (.new (ρ := ρ) ha)))
/-- a new frozen list -/
theorem post_lst {ds : List D} {xs : List V} (p : Post (RvE K) K ρ H Q (.ok (.lst ds) h)) (S : SR ρ K h H) (r : Rls ρ K H ds xs) : ∀ a, H a = none → FzQ Q (.ref a) (upd H a (.lst xs)) := fun a ha => by
  refine ⟨a, xs, rfl, upd_same, fun o => ?_⟩
  rw [upd_upd]
  exact p ρ _ _ (.new ha) (S.new ha) (.lst (.inl ⟨o, upd_same⟩) (r.mono (.new (ρ := ρ) ha)))
/-- a new list that may change -/
theorem post_ref {ds : List D} {xs : List V} (p : Post (RvE K) K ρ H Q (.ok (.ref h.n) (h.push (.lst ds)))) (S : SR ρ K h H) (r : Rls ρ K H ds xs) : ∀ a, H a = none → Q (.ref a) (upd H a (.lst xs)) := fun a ha =>
  p (ext ρ h.n a) _ _ (S.stp_push ha) (S.push ha ⟨xs, upd_same, r.mono (S.stp_push ha)⟩) (.ref (by unfold ext; rw [if_pos rfl]))
/-- the list that a value is -/
theorem lstOf_rd {ds : List D} (S : SR ρ K h H) (r : Rl ρ K H d v) (e : lstOf h d = some ds) : ∃ a xs, v = .ref a ∧ RdL K H a xs ∧ Rls ρ K H ds xs := by
  cases r with
  | lst hz hr => cases e; exact ⟨_, _, rfl, hz.rd, hr⟩
  | ref hk =>
    rename_i k a
    simp only [lstOf] at e
    cases hg : h.get k with
    | none => rw [hg] at e; cases e
    | some ob =>
      rw [hg] at e
      obtain ⟨b, hb, x⟩ := S.obj k ob hg
      rw [hk] at hb; cases hb
      cases ob with
      | lst zs => cases e; obtain ⟨vs, q, r⟩ := x; exact ⟨a, vs, rfl, .inl (.inl q), r⟩
      | fz zs => cases e; obtain ⟨vs, o, q, r⟩ := x; exact ⟨a, vs, rfl, .inl (.inr ⟨o, q⟩), r⟩
      | dK _ _ => cases e
      | dT _ _ => cases e
      | zK _ _ => cases e
      | zT _ _ => cases e
  | non => cases e
  | bl _ => cases e
  | int _ => cases e
  | str _ => cases e
  | ty _ => cases e
  | tup _ _ => cases e
  | gt _ _ => cases e
  | dK _ _ _ => cases e
  | dT _ _ _ => cases e
theorem lstOf_ok {ds : List D} (S : SR ρ K h H) (r : Rl ρ K H d v) (e : lstOf h d = some ds) : ∃ a xs, v = .ref a ∧ SqL K H a xs ∧ Rls ρ K H ds xs :=
  let ⟨a, xs, e1, q, r⟩ := lstOf_rd S r e; ⟨a, xs, e1, q.sq, r⟩
theorem seqOf_ok {ds : List D} (S : SR ρ K h H) (r : Rl ρ K H d v) (e : seqOf h d = some ds) : ∃ a xs, v = .ref a ∧ (SqL K H a xs ∨ SqT K H a xs) ∧ Rls ρ K H ds xs := by
  cases r with
  | tup hz hr => cases e; exact ⟨_, _, rfl, .inr (.of hz), hr⟩
  | gt hz hr => cases e; exact ⟨_, _, rfl, .inr (.inr hz), hr⟩
  | lst hz hr => cases e; exact ⟨_, _, rfl, .inl hz.sq, hr⟩
  | ref hk =>
    obtain ⟨a, xs, ev, q, r⟩ := lstOf_ok S (.ref hk) (show lstOf h _ = some ds from e)
    exact ⟨a, xs, ev, .inl q, r⟩
  | non => cases e
  | bl _ => cases e
  | int _ => cases e
  | str _ => cases e
  | ty _ => cases e
  | dK _ _ _ => cases e
  | dT _ _ _ => cases e
mutual
theorem pyD_ok : ∀ {d : D} {v : V} {p : PyData}, Rl ρ K H d v → pyD d = some p → Dp K H v p
  | .non, _, _, .non, e => by cases e; exact .non
  | .bl b, _, _, .bl _, e => by cases e; exact .bl b
  | .int b, _, _, .int _, e => by cases e; exact .int b
  | .str b, _, _, .str _, e => by cases e; exact .str b
  | .tup xs, _, _, .tup q r, e => by
    simp only [pyD] at e
    cases hp : pyDs xs with
    | none => rw [hp] at e; cases e
    | some ps => rw [hp] at e; cases e; exact .tup (.of q) (pyDs_ok r hp)
  | .gt xs, _, _, .gt q r, e => by
    simp only [pyD] at e
    cases hp : pyDs xs with
    | none => rw [hp] at e; cases e
    | some ps => rw [hp] at e; cases e; exact .tup (.inr q) (pyDs_ok r hp)
  | .lst xs, _, _, .lst q r, e => by
    simp only [pyD] at e
    cases hp : pyDs xs with
    | none => rw [hp] at e; cases e
    | some ps => rw [hp] at e; cases e; exact .lst q.sq (pyDs_ok r hp)
theorem pyDs_ok : ∀ {ds : List D} {vs : List V} {ps : List PyData}, Rls ρ K H ds vs → pyDs ds = some ps → DpAll K H vs ps
  | [], _, _, .nil, e => by cases e; exact .nil
  | d :: ds, _, _, .cons h r, e => by
    simp only [pyDs] at e
    cases hp : pyD d with
    | none => rw [hp] at e; cases e
    | some p =>
      rw [hp] at e
      dsimp only at e
      cases hq : pyDs ds with
      | none => rw [hq] at e; cases e
      | some ps => rw [hq] at e; cases e; exact .cons (pyD_ok h hp) (pyDs_ok r hq)
end
theorem view_ok {p : PyData} (S : SR ρ K h H) (r : Rl ρ K H d v) (e : pyD (viewD h d) = some p) : Dp K H v p := by
  unfold viewD at e
  cases hl : lstOf h d with
  | none => rw [hl] at e; exact pyD_ok r e
  | some xs =>
    rw [hl] at e
    obtain ⟨a, vs, rfl, q, rs⟩ := lstOf_ok S r hl
    simp only [pyD] at e
    cases hp : pyDs xs with
    | none => rw [hp] at e; cases e
    | some ps => rw [hp] at e; cases e; exact .lst q (pyDs_ok rs hp)
end

/-! ### operators by values -/
def rV (K : Fg) (f : D → D → IH → R D) : R2 := fun v w H Q => ∃ ρ h x y, SR ρ K h H ∧ Rl ρ K H x v ∧ Rl ρ K H y w ∧ Post (RvE K) K ρ H Q (f x y h)
theorem two {K : Fg} {ea eb : Sig → IH → R D} {f : D → D → IH → R D} {σ : L2.St} {H : Hp} {Q : VK}
    (h : tE K (fun σ h => (ea σ h).bd fun x h => (eb σ h).bd fun y h => f x y h) σ H Q) : tOp (rV K f) (tE K ea) (tE K eb) σ H Q := by
  obtain ⟨ρ, h, σI, S, L, p⟩ := h
  refine ⟨ρ, h, σI, S, L, ?_⟩
  have p1 := Post.bd (Rv := RvE K) p
  cases e1 : ea σI h with
  | bad => rw [e1] at p1; exact p1
  | ok d1 h1 =>
    rw [e1] at p1
    intro ρ1 H1 v1 k1 s1 r1
    obtain ⟨ρ1', d1', h1', k1', s1', r1', p2⟩ := p1 ρ1 H1 v1 k1 s1 r1
    refine ⟨ρ1', h1', σI, s1', L.mono k1', ?_⟩
    have p3 := Post.bd (Rv := RvE K) p2
    cases e2 : eb σI h1' with
    | bad => rw [e2] at p3; exact p3
    | ok d2 h2 =>
      rw [e2] at p3
      intro ρ2 H2 v2 k2 s2 r2
      obtain ⟨ρ2', d2', h2', k2', s2', r2', p4⟩ := p3 ρ2 H2 v2 k2 s2 r2
      exact ⟨ρ2', h2', d1', d2', s2', r1'.mono k2', r2', p4⟩

section
variable {X : Cx} {pins : List (Addr × Obj)} {σ : L2.St} {H : Hp} {s : Shared} {Q : VK} {u : Value}
theorem inv_rdL {a : Addr} {xs : List V} (I : Inv X pins σ H s) (h : RdL X.K H a xs) : xs.length ≤ sizeLine ∧ ∃ (its : List Value) (n : Nat), Vals xs its ∧ s.heap.get? a = some { cls := .type "list", data := .seq its.toArray n } := by
  rcases h with h | ⟨its, n, hk, hz, r⟩
  · obtain ⟨z, its, n, r, e⟩ := h.ok I.hok
    exact ⟨z, its, n, r, e⟩
  · exact ⟨hz, its, n, r, I.kIn _ _ hk⟩
/-- xs + ys, lists that are read -/
def rCatR (K : Fg) : R2 := fun x y H Q => ∃ l b xs zs, x = .ref l ∧ y = .ref b ∧ RdL K H l xs ∧ RdL K H b zs ∧ xs.length + zs.length ≤ sizeLine ∧ ∀ p, H p = none → Q (.ref p) (upd H p (.lst (xs ++ zs)))
theorem op_catR : OpR X (binaryOp .Add) (rCatR X.K) := by
  rintro pins s σ H _ _ v u Q I rx ry ⟨l, b, xs, zs, rfl, rfl, hl, hb, hz, q⟩
  obtain rfl : v = .ref l := rx
  obtain rfl : u = .ref b := ry
  obtain ⟨_, i1, n1, r1, e1⟩ := inv_rdL I hl
  obtain ⟨_, i2, n2, r2, e2⟩ := inv_rdL I hb
  have z1 := r1.length
  have z2 := r2.length
  refine PySem.P.add_list e1 e2 ?_ (by simp only [List.size_toArray]; omega)
  rw [show i1.toArray ++ i2.toArray = (i1 ++ i2).toArray by simp]
  exact ⟨.ref _, _, I.lnew (r1.append r2) (by rw [List.length_append]; exact hz), rfl, q _ I.fresh⟩
theorem of_mulOk {i j : Int} (h : mulOk i j = true) : CMulW i j := by
  unfold mulOk at h
  have q : i.natAbs.log2 + j.natAbs.log2 < 1000000 := of_decide_eq_true h
  exact q
theorem op_bin (o : Operator) : OpR X (binaryOp o) (rV X.K (binD o)) := by
  rintro pins s σ H x' y' v u Q I rx ry ⟨ρ, h, x, y, S, r1, r2, p⟩
  have cat : ∀ {xs ys : List D}, o = .Add → lstOf h x = some xs → lstOf h y = some ys → Post (RvE X.K) X.K ρ H Q (mkL false (xs ++ ys) h) → wpAny (model X.prog X.w) X.A (binaryOp o v u) (EP X pins σ Q) X.xe s := by
    intro xs ys eo e1 e2 pp
    subst eo
    obtain ⟨a, vs, rfl, q1, w1⟩ := lstOf_rd S r1 e1
    obtain ⟨b, us, rfl, q2, w2⟩ := lstOf_rd S r2 e2
    have hl : (xs ++ ys).length = vs.length + us.length := by rw [List.length_append, w1.length, w2.length]
    unfold mkL at pp
    by_cases hz : (xs ++ ys).length ≤ sizeLine
    · rw [if_pos hz] at pp
      exact OpR.fz op_catR pins s σ H _ _ v u Q I rx ry ⟨a, b, vs, us, rfl, rfl, q1, q2, by omega, post_lst pp S (w1.append w2)⟩
    · rw [if_neg hz] at pp; exact pp.elim
  unfold binD at p
  split at p
  · cases r1; cases r2; exact op_add pins s σ H _ _ v u Q I rx ry ⟨_, _, rfl, rfl, post_same p S (.int _)⟩
  · cases r1; cases r2; exact op_sub pins s σ H _ _ v u Q I rx ry ⟨_, _, rfl, rfl, post_same p S (.int _)⟩
  · split at p
    · rename_i hc
      cases r1; cases r2
      exact op_mulW pins s σ H _ _ v u Q I rx ry ⟨_, _, rfl, rfl, of_mulOk hc, post_same p S (.int _)⟩
    · exact p.elim
  · split at p
    · rename_i hc
      cases r1; cases r2
      exact op_fdivW pins s σ H _ _ v u Q I rx ry ⟨_, _, rfl, rfl, hc, post_same p S (.int _)⟩
    · exact p.elim
  · split at p
    · rename_i i j hc
      cases r1; cases r2
      refine op_modN pins s σ H _ _ v u Q I rx ry ⟨_, _, rfl, rfl, by omega, ?_⟩
      show Q (.int (i.fmod j)) H
      rw [Int.fmod_eq_emod_of_nonneg i (by omega)]
      exact post_same p S (.int _)
    · exact p.elim
  · split at p
    · rename_i hc
      cases r1; cases r2
      exact op_pow pins s σ H _ _ v u Q I rx ry ⟨_, _, rfl, rfl, hc, post_same p S (.int _)⟩
    · exact p.elim
  · split at p
    · rename_i hc
      cases r1; cases r2
      exact op_add_str pins s σ H _ _ v u Q I rx ry ⟨_, _, rfl, rfl, hc, post_same p S (.str _)⟩
    · exact p.elim
  · rename_i xs ys
    cases r1 with
    | tup q1 w1 =>
      cases r2 with
      | tup q2 w2 =>
        rename_i a vs b us
        unfold mkT at p
        by_cases hz : (xs ++ ys).length ≤ sizeLine
        · rw [if_pos hz] at p
          have l1 := w1.length
          have l2 := w2.length
          rw [List.length_append] at hz
          refine op_catA pins s σ H _ _ v u Q I rx ry ⟨a, b, vs, us, rfl, rfl, .of q1, .of q2, by omega, fun e => ?_, fun _ e => ?_, fun _ _ => post_tup p S (w1.append w2)⟩
          · subst e
            have : xs = [] := List.length_eq_zero_iff.mp l1
            subst this
            exact post_same p S (.tup q2 w2)
          · subst e
            have : ys = [] := List.length_eq_zero_iff.mp l2
            subst this
            rw [List.append_nil] at p
            exact post_same p S (.tup q1 w1)
        · rw [if_neg hz] at p; exact p.elim
  · split at p
    · rename_i e1 e2
      exact cat rfl e1 e2 p
    · exact p.elim
  · exact p.elim
end
end VI

/-! VId: comparisons, subscripts, truth by values. -/
namespace VI
open PySem PySem.Spec PyProof.Rows L2

/-! ### dicts -/
section
variable {K : Fg} {ρ : Ro} {H : Hp} {h : IH} {Q : VK} {d : D} {v : V}
theorem keyOf_ok {k : Key} (r : Rl ρ K H d v) (e : keyOf d = some k) : v = kV k := by
  cases r <;> cases e <;> rfl
theorem keysOf_ok : ∀ {ds : List D} {vs : List V} {ks : List Key}, Rls ρ K H ds vs → keysOf ds = some ks → vs = ks.map kV
  | _, _, ks, .nil, e => by cases e; rfl
  | _, _, ks, .cons (d := d) (ds := ds) h r, e => by
    unfold keysOf at e
    cases h1 : keyOf d with
    | none => rw [h1] at e; cases e
    | some k =>
      cases h2 : keysOf ds with
      | none => rw [h1, h2] at e; cases e
      | some kk =>
        rw [h1, h2] at e
        cases e
        rw [keyOf_ok h h1, keysOf_ok r h2]
        rfl
theorem tkOf_ok {k : List Key} (r : Rl ρ K H d v) (e : tkOf d = some k) : ∃ b, v = .ref b ∧ H b = some (.tup (k.map kV)) := by
  cases r with
  | tup q w => exact ⟨_, rfl, by rw [← keysOf_ok w e]; exact q⟩
  | non => cases e
  | bl _ => cases e
  | int _ => cases e
  | str _ => cases e
  | ty _ => cases e
  | gt _ _ => cases e
  | lst _ _ => cases e
  | dK _ _ _ => cases e
  | dT _ _ _ => cases e
  | ref _ => cases e
/-- an optional value -/
def RlO (ρ : Ro) (K : Fg) (H : Hp) : Option D → Option V → Prop
  | some d, some v => Rl ρ K H d v
  | none, none => True
  | _, _ => False
theorem look_ok {κ : Type} [DecidableEq κ] {x : κ} : ∀ {ks : List κ} {ds : List D} {vs : List V}, Rls ρ K H ds vs → ks.length = vs.length → RlO ρ K H (look ks ds x) (valV (ks.zip vs) x)
  | [], _, _, .nil, _ => trivial
  | k :: ks, _, _, .cons (d := d) (v := v) (ds := ds) (vs := vs) h r, e => by
    have ih := look_ok (x := x) (ks := ks) r (by simpa using e)
    unfold look
    by_cases hk : k = x
    · rw [if_pos hk]
      have q : valV ((k, v) :: ks.zip vs) x = some v := by
        unfold valV
        rw [List.find?_cons_of_pos (by simpa using hk)]
        rfl
      show RlO ρ K H (some d) (valV ((k, v) :: ks.zip vs) x)
      rw [q]
      exact h
    · rw [if_neg hk]
      have q : valV ((k, v) :: ks.zip vs) x = valV (ks.zip vs) x := by
        unfold valV
        rw [List.find?_cons_of_neg (by simpa using hk)]
      show RlO ρ K H _ (valV ((k, v) :: ks.zip vs) x)
      rw [q]
      exact ih
  | [], _, _, .cons _ _, e => by cases e
theorem dctOf_K {ks : List Key} {ds : List D} (S : SR ρ K h H) (r : Rl ρ K H d v) (e : dctOf h d = .K ks ds) : ∃ a vs, v = .ref a ∧ Rd H a (.dK (ks.zip vs)) ∧ ks.length = vs.length ∧ Rls ρ K H ds vs := by
  cases r with
  | dK q z w => cases e; exact ⟨_, _, rfl, .inr ⟨_, q⟩, z, w⟩
  | ref hk =>
    rename_i k a
    simp only [dctOf] at e
    cases hg : h.get k with
    | none => rw [hg] at e; cases e
    | some ob =>
      rw [hg] at e
      obtain ⟨b, hb, x⟩ := S.obj k ob hg
      rw [hk] at hb; cases hb
      cases ob with
      | lst _ => cases e
      | fz _ => cases e
      | dK _ _ => cases e; obtain ⟨vs, q, z, w⟩ := x; exact ⟨a, vs, rfl, .inl q, z, w⟩
      | dT _ _ => cases e
      | zK _ _ => cases e; obtain ⟨vs, o, q, z, w⟩ := x; exact ⟨a, vs, rfl, .inr ⟨o, q⟩, z, w⟩
      | zT _ _ => cases e
  | non => cases e
  | bl _ => cases e
  | int _ => cases e
  | str _ => cases e
  | ty _ => cases e
  | tup _ _ => cases e
  | gt _ _ => cases e
  | lst _ _ => cases e
  | dT _ _ _ => cases e
theorem dctOf_T {ks : List (List Key)} {ds : List D} (S : SR ρ K h H) (r : Rl ρ K H d v) (e : dctOf h d = .T ks ds) : ∃ a vs, v = .ref a ∧ Rd H a (.dT (ks.zip vs)) ∧ ks.length = vs.length ∧ Rls ρ K H ds vs := by
  cases r with
  | dT q z w => cases e; exact ⟨_, _, rfl, .inr ⟨_, q⟩, z, w⟩
  | ref hk =>
    rename_i k a
    simp only [dctOf] at e
    cases hg : h.get k with
    | none => rw [hg] at e; cases e
    | some ob =>
      rw [hg] at e
      obtain ⟨b, hb, x⟩ := S.obj k ob hg
      rw [hk] at hb; cases hb
      cases ob with
      | lst _ => cases e
      | fz _ => cases e
      | dT _ _ => cases e; obtain ⟨vs, q, z, w⟩ := x; exact ⟨a, vs, rfl, .inl q, z, w⟩
      | dK _ _ => cases e
      | zT _ _ => cases e; obtain ⟨vs, o, q, z, w⟩ := x; exact ⟨a, vs, rfl, .inr ⟨o, q⟩, z, w⟩
      | zK _ _ => cases e
  | non => cases e
  | bl _ => cases e
  | int _ => cases e
  | str _ => cases e
  | ty _ => cases e
  | tup _ _ => cases e
  | gt _ _ => cases e
  | lst _ _ => cases e
  | dK _ _ _ => cases e
theorem findD_ok {k : D} {w : V} {o : Option D} (S : SR ρ K h H) (r : Rl ρ K H d v) (rk : Rl ρ K H k w) (e : findD h d k = some o) : ∃ a ov, v = .ref a ∧ DGet H a w ov ∧ RlO ρ K H o ov := by
  unfold findD at e
  cases hd : dctOf h d with
  | no => rw [hd] at e; cases e
  | K ks ds =>
    rw [hd] at e
    dsimp only at e
    cases hk : keyOf k with
    | none => rw [hk] at e; cases e
    | some x =>
      rw [hk] at e
      cases e
      obtain ⟨a, vs, rfl, q, z, w'⟩ := dctOf_K S r hd
      exact ⟨a, _, rfl, .inl ⟨_, x, q, keyOf_ok rk hk, rfl⟩, look_ok w' z⟩
  | T ks ds =>
    rw [hd] at e
    dsimp only at e
    cases hk : tkOf k with
    | none => rw [hk] at e; cases e
    | some x =>
      rw [hk] at e
      cases e
      obtain ⟨a, vs, rfl, q, z, w'⟩ := dctOf_T S r hd
      obtain ⟨b, rfl, hb⟩ := tkOf_ok rk hk
      exact ⟨a, _, rfl, .inr ⟨_, x, b, q, rfl, hb, rfl⟩, look_ok w' z⟩
theorem RlO.isSome {o : Option D} {ov : Option V} (r : RlO ρ K H o ov) : ov.isSome = o.isSome := by
  cases o <;> cases ov <;> first | rfl | exact r.elim
end

/-! ### in -/
section
variable {K : Fg} {ρ : Ro} {H : Hp}
theorem flat_ok {d : D} {v : V} (r : Rl ρ K H d v) (e : flatD d = true) : flatV v = true := by
  cases r <;> first | rfl | exact absurd e Bool.false_ne_true
theorem flats_ok : ∀ {ds : List D} {vs : List V}, Rls ρ K H ds vs → ds.all flatD = true → vs.all flatV = true
  | _, _, .nil, _ => rfl
  | _, _, .cons h r, e => by
    simp only [List.all_cons, Bool.and_eq_true] at e ⊢
    exact ⟨flat_ok h e.1, flats_ok r e.2⟩
theorem eqF_ok {d e : D} {v w : V} (r : Rl ρ K H d v) (s : Rl ρ K H e w) (h1 : flatD d = true) (h2 : flatD e = true) : eqV v w = eqF d e := by
  cases r <;> first | exact absurd h1 Bool.false_ne_true | (cases s <;> first | exact absurd h2 Bool.false_ne_true | rfl)
theorem inV_ok {x : D} {v : V} (r : Rl ρ K H x v) (hx : flatD x = true) : ∀ {ds : List D} {vs : List V}, Rls ρ K H ds vs → ds.all flatD = true → inV v vs = ds.any fun z => eqF z x
  | _, _, .nil, _ => rfl
  | _, _, .cons h w, e => by
    simp only [List.all_cons, Bool.and_eq_true] at e
    have ih := inV_ok r hx w e.2
    unfold inV at ih ⊢
    simp only [List.any_cons]
    rw [ih, eqF_ok h r e.1 hx]
end
theorem layAll : ∀ {bs : List PyData}, bs.all SeqAt.shaped = true → PyData.canLayAll0 bs = true
  | [], _ => by simp [PyData.canLayAll0]
  | b :: bs, h => by
    simp only [List.all_cons, Bool.and_eq_true] at h
    simp only [PyData.canLayAll0, Bool.and_eq_true]
    exact ⟨SeqAt.canLay_of_shaped h.1, layAll h.2⟩
section
variable {X : Cx}
theorem str_one {s : Str} (e : s.length = 1) : s = ⟨#[s.cps.getD 0 0]⟩ := by
  obtain ⟨⟨l⟩⟩ := s
  match l, e with
  | [c], _ => rfl
/-- both in and not in, by the answer neg -/
def outB (neg : Bool) (c : Bool) : Bool := if neg then !c else c
theorem opIn (neg : Bool) (hu : X.A.units + 65 < cLine) : OpR X (compareOp (if neg then .NotIn else .In)) (rV X.K fun x y h => ansB ((isIn x y h).map (outB neg)) h) := by
  rintro pins s σ H x' y' v u Q I rx ry ⟨ρ, h, x, y, S, r1, r2, p⟩
  have hu1 : X.A.units + 1 < cLine := by omega
  dsimp only at p
  cases hi : isIn x y h with
  | none => rw [hi] at p; exact p.elim
  | some c =>
    rw [hi] at p
    have q : Q (.bl (outB neg c)) H := post_same p S (.bl _)
    have dct : ∀ {o : Option D}, findD h y x = some o → c = o.isSome → wpAny (model X.prog X.w) X.A (compareOp (if neg then .NotIn else .In) v u) (EP X pins σ Q) X.xe s := by
      intro o ef ec
      obtain ⟨a, ov, rfl, g, ro⟩ := findD_ok S r2 r1 ef
      obtain rfl : u = .ref a := ry
      cases neg with
      | false => exact d_in hu1 I g rx fun s' I' => ⟨.bl ov.isSome, H, I', rfl, by rw [ro.isSome, ← ec]; exact q⟩
      | true => exact d_notIn hu1 I g rx fun s' I' => ⟨.bl (!ov.isSome), H, I', rfl, by rw [ro.isSome, ← ec]; exact q⟩
    have seq : ∀ {ys : List D}, seqOf h y = some ys → (if (flatD x && ys.all flatD) = true then some (ys.any fun z => eqF z x) else
        (match pyD x, pyDs ys with
        | some a, some bs => if (SeqAt.shaped a && bs.all SeqAt.shaped) = true then some (bs.any fun b => PyData.eqv b a) else none
        | _, _ => none)) = some c → wpAny (model X.prog X.w) X.A (compareOp (if neg then .NotIn else .In) v u) (EP X pins σ Q) X.xe s := by
      intro ys es ec
      obtain ⟨a, vs, rfl, qa, ws⟩ := seqOf_ok S r2 es
      obtain rfl : u = .ref a := ry
      by_cases hf : (flatD x && ys.all flatD) = true
      · rw [if_pos hf] at ec
        cases ec
        simp only [Bool.and_eq_true] at hf
        have ev := inV_ok r1 hf.1 ws hf.2
        rw [← ev] at q
        cases neg with
        | false => exact op_in_seq pins s σ H _ (.ref a) v _ Q I rx rfl ⟨a, vs, rfl, qa, flat_ok r1 hf.1, flats_ok ws hf.2, q⟩
        | true => exact op_notIn_seq pins s σ H _ (.ref a) v _ Q I rx rfl ⟨a, vs, rfl, qa, flat_ok r1 hf.1, flats_ok ws hf.2, q⟩
      · rw [if_neg hf] at ec
        cases hp : pyD x with
        | none => rw [hp] at ec; cases ec
        | some dx =>
          cases hq : pyDs ys with
          | none => rw [hp, hq] at ec; cases ec
          | some bs =>
            rw [hp, hq] at ec
            dsimp only at ec
            by_cases hs : (SeqAt.shaped dx && bs.all SeqAt.shaped) = true
            · rw [if_pos hs] at ec
              cases ec
              simp only [Bool.and_eq_true] at hs
              obtain ⟨a1, R1⟩ := Dp.reads I dx _ v (pyD_ok r1 hp) rx
              have lay : PyData.canLayAll0 bs = true := layAll hs.2
              have room : X.A.units + 1 + min (PyData.depthAll bs) dx.depth < cLine := by
                have h1 := SeqAt.depth_of_shaped hs.1
                have h2 : min (PyData.depthAll bs) dx.depth ≤ dx.depth := Nat.min_le_right _ _
                omega
              rcases qa with qa | qa
              · obtain ⟨a2, R2⟩ := Dp.reads I (.list bs) _ (.ref a) (.lst qa (pyDs_ok ws hq)) rfl
                cases neg with
                | false => exact SeqAt.in_list_reads R2 R1 lay (SeqAt.canLay_of_shaped hs.1) room ⟨.bl _, H, I, rfl, q⟩
                | true => exact SeqAt.notIn_list_reads R2 R1 lay (SeqAt.canLay_of_shaped hs.1) room ⟨.bl _, H, I, rfl, q⟩
              · obtain ⟨a2, R2⟩ := Dp.reads I (.tuple bs) _ (.ref a) (.tup qa (pyDs_ok ws hq)) rfl
                cases neg with
                | false => exact SeqAt.in_tuple_reads R2 R1 lay (SeqAt.canLay_of_shaped hs.1) room ⟨.bl _, H, I, rfl, q⟩
                | true => exact SeqAt.notIn_tuple_reads R2 R1 lay (SeqAt.canLay_of_shaped hs.1) room ⟨.bl _, H, I, rfl, q⟩
            · rw [if_neg hs] at ec; cases ec
    have gen : (∀ t, y ≠ .str t) → wpAny (model X.prog X.w) X.A (compareOp (if neg then .NotIn else .In) v u) (EP X pins σ Q) X.xe s := by
      intro hy
      have hi' : (match seqOf h y with
        | some ys => if (flatD x && ys.all flatD) = true then some (ys.any fun z => eqF z x) else
          (match pyD x, pyDs ys with
          | some a, some bs => if (SeqAt.shaped a && bs.all SeqAt.shaped) = true then some (bs.any fun b => PyData.eqv b a) else none
          | _, _ => none)
        | none => (findD h y x).map Option.isSome) = some c := by
        cases y <;> first | exact absurd rfl (hy _) | exact hi
      cases es : seqOf h y with
      | some ys => rw [es] at hi'; exact seq es hi'
      | none =>
        rw [es] at hi'
        dsimp only at hi'
        cases ef : findD h y x with
        | none => rw [ef] at hi'; cases hi'
        | some o => rw [ef] at hi'; exact dct ef (Option.some.inj hi').symm
    cases y with
    | str t =>
      cases r2
      simp only [isIn] at hi
      cases x <;> first | cases hi | skip
      rename_i z
      dsimp only at hi
      by_cases hz : z.length = 1
      · rw [if_pos hz] at hi
        cases hi
        cases r1
        have ed : (t.cps.toList.contains (z.cps.getD 0 0)) = decide ((z.cps.getD 0 0) ∈ t.cps.toList) := by simp
        rw [ed] at q
        rw [str_one hz] at rx
        cases neg with
        | false => exact op_in_sign pins s σ H _ _ v u Q I rx ry ⟨_, t, rfl, rfl, q⟩
        | true => exact op_notIn_sign pins s σ H _ _ v u Q I rx ry ⟨_, t, rfl, rfl, q⟩
      · rw [if_neg hz] at hi; cases hi
    | _ => exact gen fun t z => by cases z
theorem scal_ok {ρ : Ro} {K : Fg} {H : Hp} {x y : D} {v w : V} (r1 : Rl ρ K H x v) (r2 : Rl ρ K H y w) (hs : scalD x y = true) : scal v w = true ∧ decide (v = w) = eqF x y := by
  cases r1 <;> cases r2 <;> first | (simp only [scalD, Bool.false_eq_true] at hs; done) | exact ⟨rfl, dec_int⟩ | exact ⟨rfl, dec_bl⟩ | exact ⟨rfl, dec_str⟩ | exact ⟨rfl, decide_eq_false fun z => nomatch z⟩ | exact ⟨rfl, decide_eq_true rfl⟩
theorem op_cmp (o : CmpOp) (hu : X.A.units + 65 < cLine) : OpR X (compareOp o) (rV X.K fun x y h => ansB (cmpD o x y h) h) := by
  have hI := opIn (X := X) false hu
  have hN := opIn (X := X) true hu
  rintro pins s σ H x' y' v u Q I rx ry ⟨ρ, h, x, y, S, r1, r2, p⟩
  dsimp only at p
  have eq : ∀ {a b : PyData}, pyD (viewD h x) = some a → pyD (viewD h y) = some b → Dp X.K H x' a ∧ Dp X.K H y' b := fun h1 h2 => ⟨view_ok S r1 h1, view_ok S r2 h2⟩
  cases o with
  | Eq =>
    simp only [cmpD, eqD] at p
    by_cases sc : scalD x y = true
    · rw [if_pos sc] at p
      obtain ⟨s1, s2⟩ := scal_ok r1 r2 sc
      refine op_eq pins s σ H _ _ v u Q I rx ry ⟨s1, ?_⟩
      rw [s2]
      exact post_same p S (.bl _)
    rw [if_neg sc, eqvD] at p
    cases ha : pyD (viewD h x) with
    | none => rw [ha] at p; exact p.elim
    | some a =>
      cases hb : pyD (viewD h y) with
      | none => rw [ha, hb] at p; exact p.elim
      | some b =>
        rw [ha, hb] at p
        dsimp only at p
        by_cases hs : (SeqAt.shaped a && SeqAt.shaped b) = true
        · rw [if_pos hs] at p
          simp only [Bool.and_eq_true] at hs
          exact op_eqD (by omega) pins s σ H _ _ v u Q I rx ry ⟨a, b, (eq ha hb).1, (eq ha hb).2, hs.1, hs.2, post_same p S (.bl _)⟩
        · rw [if_neg hs] at p; exact p.elim
  | NotEq =>
    simp only [cmpD, eqD] at p
    by_cases sc : scalD x y = true
    · rw [if_pos sc] at p
      obtain ⟨s1, s2⟩ := scal_ok r1 r2 sc
      refine op_ne pins s σ H _ _ v u Q I rx ry ⟨s1, ?_⟩
      rw [s2]
      exact post_same p S (.bl _)
    rw [if_neg sc, eqvD] at p
    cases ha : pyD (viewD h x) with
    | none => rw [ha] at p; exact p.elim
    | some a =>
      cases hb : pyD (viewD h y) with
      | none => rw [ha, hb] at p; exact p.elim
      | some b =>
        rw [ha, hb] at p
        dsimp only at p
        by_cases hs : (SeqAt.shaped a && SeqAt.shaped b) = true
        · rw [if_pos hs] at p
          simp only [Bool.and_eq_true] at hs
          exact op_neD (by omega) pins s σ H _ _ v u Q I rx ry ⟨a, b, (eq ha hb).1, (eq ha hb).2, hs.1, hs.2, post_same p S (.bl _)⟩
        · rw [if_neg hs] at p; exact p.elim
  | Lt =>
    simp only [cmpD] at p
    split at p
    · cases r1; cases r2; exact op_lt pins s σ H _ _ v u Q I rx ry ⟨_, _, rfl, rfl, post_same p S (.bl _)⟩
    · exact p.elim
  | LtE =>
    simp only [cmpD] at p
    split at p
    · cases r1; cases r2; exact op_le pins s σ H _ _ v u Q I rx ry ⟨_, _, rfl, rfl, post_same p S (.bl _)⟩
    · exact p.elim
  | Gt =>
    simp only [cmpD] at p
    split at p
    · cases r1; cases r2; exact op_gt pins s σ H _ _ v u Q I rx ry ⟨_, _, rfl, rfl, post_same p S (.bl _)⟩
    · exact p.elim
  | GtE =>
    simp only [cmpD] at p
    split at p
    · cases r1; cases r2; exact op_ge pins s σ H _ _ v u Q I rx ry ⟨_, _, rfl, rfl, post_same p S (.bl _)⟩
    · exact p.elim
  | In =>
    refine hI pins s σ H x' y' v u Q I rx ry ⟨ρ, h, x, y, S, r1, r2, ?_⟩
    have e : (isIn x y h).map (outB false) = cmpD .In x y h := by
      show (isIn x y h).map (outB false) = isIn x y h
      cases isIn x y h <;> rfl
    show Post _ _ _ _ _ (ansB ((isIn x y h).map (outB false)) h)
    rw [e]; exact p
  | NotIn =>
    exact hN pins s σ H x' y' v u Q I rx ry ⟨ρ, h, x, y, S, r1, r2, p⟩
  | Is =>
    simp only [cmpD] at p
    cases y with
    | non =>
      cases r2
      refine op_isN pins s σ H _ _ v u Q I rx ry ⟨rfl, ?_⟩
      cases r1 <;> exact post_same p S (.bl _)
    | bl b =>
      cases r2
      cases r1 with
      | bl c =>
        refine op_is_bl pins s σ H _ _ v u Q I rx ry ⟨c, b, rfl, rfl, ?_⟩
        have e : (b == c) = decide (c = b) := by cases b <;> cases c <;> rfl
        rw [← e]; exact post_same p S (.bl _)
      | non =>
        obtain rfl : v = .none := rx
        obtain rfl : u = .bool b := ry
        exact wpAny_is_other rfl (fun z => nomatch z) ⟨.bl false, H, I, rfl, post_same p S (.bl _)⟩
      | int i => exact p.elim
      | str i => exact p.elim
      | _ => exact p.elim
    | _ => exact p.elim
  | IsNot =>
    simp only [cmpD] at p
    cases y with
    | non =>
      cases r2
      refine op_notN pins s σ H _ _ v u Q I rx ry ⟨rfl, ?_⟩
      cases r1 <;> exact post_same p S (.bl _)
    | bl b =>
      cases r2
      cases r1 with
      | bl c =>
        refine op_isnot_bl pins s σ H _ _ v u Q I rx ry ⟨c, b, rfl, rfl, ?_⟩
        have e : (b == c) = decide (c = b) := by cases b <;> cases c <;> rfl
        rw [← e]; exact post_same p S (.bl _)
      | non =>
        obtain rfl : v = .none := rx
        obtain rfl : u = .bool b := ry
        exact wpAny_isNot_other rfl (fun z => nomatch z) ⟨.bl true, H, I, rfl, post_same p S (.bl _)⟩
      | int i => exact p.elim
      | str i => exact p.elim
      | _ => exact p.elim
    | _ => exact p.elim
end
end VI

/-! VIe: truth, subscripts, calls of built-ins, methods, stores by values. -/
namespace VI
open PySem PySem.Spec PyProof.Rows L2

/-! ### truth -/
section
variable {K : Fg} {ρ : Ro} {H : Hp} {h : IH} {d : D} {v : V}
theorem isEmpty_ok : ∀ {ds : List D} {vs : List V}, Rls ρ K H ds vs → vs.isEmpty = ds.isEmpty
  | _, _, .nil => rfl
  | _, _, .cons _ _ => rfl
theorem truD_ok {k : Bool} (S : SR ρ K h H) (r : Rl ρ K H d v) (e : truD h d = some k) : TruV K v H k := by
  have lst : ∀ {w : Bool}, (lstOf h d).map (fun xs => !xs.isEmpty) = some w → TruV K v H w := by
    intro w e
    cases hl : lstOf h d with
    | none => rw [hl] at e; cases e
    | some xs =>
      rw [hl] at e
      cases e
      obtain ⟨a, vs, rfl, q, w'⟩ := lstOf_ok S r hl
      exact .inl ⟨vs, q, by rw [isEmpty_ok w']⟩
  cases r with
  | non => cases e; rfl
  | bl b => cases e; rfl
  | int i => cases e; rfl
  | str s =>
    simp only [truD] at e
    split at e
    · rename_i hz; cases e; exact ⟨hz, rfl⟩
    · cases e
  | ty n => cases e
  | tup q w => cases e; exact .inr (.inl ⟨_, .of q, by rw [isEmpty_ok w]⟩)
  | gt q w => cases e; exact .inr (.inl ⟨_, .inr q, by rw [isEmpty_ok w]⟩)
  | lst q w => exact lst e
  | dK _ _ _ => exact lst e
  | dT _ _ _ => exact lst e
  | ref q => exact lst e
end

/-! ### subscripts -/
section
variable {ρ : Ro} {K : Fg} {H : Hp}
theorem atI_ok {ds : List D} {vs : List V} {i : Int} {d : D} (r : Rls ρ K H ds vs) (e : atI ds i = some d) : ∃ v, atI vs i = some v ∧ Rl ρ K H d v := by
  unfold atI at e ⊢
  rw [← r.length]
  cases hx : ixN ds.length i with
  | none => rw [hx] at e; cases e
  | some j => rw [hx] at e; exact r.get e
theorem cut_ok {ds : List D} {vs : List V} (r : Rls ρ K H ds vs) (lo hi : Option Int) : Rls ρ K H (cutD ds lo hi) (cutV vs lo hi) := by
  unfold cutD cutV
  rw [r.length]
  exact (r.drop _).take _
end
section
variable {X : Cx}
theorem ix_any (hu : X.A.units + 1 < cLine) : IxR X (rV X.K fun x y h => ansD (idxD x y h) h) := by
  rintro value slice pins s σ H x' y' v u Q I rx ry ⟨ρ, h, x, y, S, r1, r2, p⟩ hs
  dsimp only at p
  have dct : (findD h x y).getD none = idxD x y h → wpAny (model X.prog X.w) X.A (subscriptTail value slice v u) (EP X pins σ Q) X.xe s := by
    intro e
    rw [← e] at p
    cases hf : findD h x y with
    | none => rw [hf] at p; exact p.elim
    | some o =>
      rw [hf] at p
      cases o with
      | none => exact p.elim
      | some d =>
        obtain ⟨a, ov, rfl, g, ro⟩ := findD_ok S r1 r2 hf
        cases ov with
        | none => exact ro.elim
        | some w =>
          obtain rfl : v = .ref a := rx
          exact tail_any (ops := [.ref a, u]) (dict_typeIs I g) PySem.F.slot_dict_getitem.lookup (d_getItem hu I g ry fun w' s' I' rw' => ⟨w, H, I', rw', post_same p S ro⟩) hs
  have seq : ∀ {k : Int} {xs : List D}, y = .int k → seqOf h x = some xs → atI xs k = idxD x y h → wpAny (model X.prog X.w) X.A (subscriptTail value slice v u) (EP X pins σ Q) X.xe s := by
    intro k xs ey es e
    subst ey
    rw [← e] at p
    cases ha : atI xs k with
    | none => rw [ha] at p; exact p.elim
    | some d =>
      rw [ha] at p
      cases r2
      obtain ⟨a, vs, rfl, q, w⟩ := seqOf_ok S r1 es
      obtain ⟨z, hz, rz⟩ := atI_ok w ha
      rcases q with q | q
      · exact ix_list value slice pins s σ H _ _ v u Q I rx ry ⟨a, vs, k, z, rfl, rfl, q, hz, post_same p S rz⟩ hs
      · exact ix_tup value slice pins s σ H _ _ v u Q I rx ry ⟨a, vs, k, z, rfl, rfl, q, hz, post_same p S rz⟩ hs
  have all : (∀ t, x ≠ .str t) → wpAny (model X.prog X.w) X.A (subscriptTail value slice v u) (EP X pins σ Q) X.xe s := by
    intro hx
    by_cases hy : ∃ k, y = .int k
    · obtain ⟨k, rfl⟩ := hy
      have ei : idxD x (.int k) h = (match seqOf h x with | some xs => atI xs k | none => (findD h x (.int k)).getD none) := by
        cases x <;> first | exact absurd rfl (hx _) | rfl
      cases es : seqOf h x with
      | some xs => rw [es] at ei; exact seq rfl es ei.symm
      | none => rw [es] at ei; exact dct ei.symm
    · have ei : idxD x y h = (findD h x y).getD none := by
        cases y <;> first | exact absurd ⟨_, rfl⟩ hy | rfl
      exact dct ei.symm
  cases x with
  | str t =>
    by_cases hy : ∃ k, y = .int k
    · obtain ⟨k, rfl⟩ := hy
      cases r1; cases r2
      simp only [idxD] at p
      by_cases hz : t.length ≤ sizeLine
      · rw [if_pos hz] at p
        cases ha : atI t.cps.toList k with
        | none => rw [ha] at p; exact p.elim
        | some c =>
          rw [ha] at p
          exact ix_str value slice pins s σ H _ _ v u Q I rx ry ⟨t, k, c, rfl, rfl, hz, ha, post_same p S (.str _)⟩ hs
      · rw [if_neg hz] at p; exact p.elim
    · have ei : idxD (.str t) y h = (findD h (.str t) y).getD none := by
        cases y <;> first | exact absurd ⟨_, rfl⟩ hy | rfl
      exact dct ei.symm
  | _ => exact all fun t z => by cases z
/-- slices by values -/
def rSl (K : Fg) : V → Option Int → Option Int → Hp → VK → Prop := fun v lo hi H Q => ∃ ρ h x, SR ρ K h H ∧ Rl ρ K H x v ∧ Post (RvE K) K ρ H Q (slcD x lo hi h)
theorem sl_any : L2.SlR X (rSl X.K) := by
  rintro pins s σ H x' v vl vu lo hi sl Q I rx hs pl pu ⟨ρ, h, x, S, r1, p⟩
  have tup : ∀ {a : Addr} {vs : List V} {xs : List D}, x' = .ref a → SqT X.K H a vs → Rls ρ X.K H xs vs →
      (HT.sIx xs.length 0 lo = 0 ∧ HT.sIx xs.length xs.length hi = xs.length → Q (.ref a) H) →
      (¬ (HT.sIx xs.length 0 lo = 0 ∧ HT.sIx xs.length xs.length hi = xs.length) → Post (RvE X.K) X.K ρ H Q (.ok (.tup (cutD xs lo hi)) h)) →
      ∃ T id, typeLookup (.type T) "__getitem__" = pure (some (.builtin id)) ∧ s.TypeIs v T ∧ wpAny (model X.prog X.w) X.A (getItem v (.ref sl)) (EP X pins σ Q) X.xe s := by
    intro a vs xs ev q w h1 h2
    subst ev
    have hl := w.length
    refine sl_tupA pins s σ H _ v vl vu lo hi sl Q I rx hs pl pu ⟨a, vs, rfl, q, fun e => h1 ?_, fun e => ?_⟩
    · rw [hl]; exact e
    · exact post_tup (h2 (by rw [hl]; exact e)) S (cut_ok w lo hi)
  have lst : ∀ {xs : List D}, lstOf h x = some xs → Post (RvE X.K) X.K ρ H Q (.ok (.lst (cutD xs lo hi)) h) →
      ∃ T id, typeLookup (.type T) "__getitem__" = pure (some (.builtin id)) ∧ s.TypeIs v T ∧ wpAny (model X.prog X.w) X.A (getItem v (.ref sl)) (EP X pins σ Q) X.xe s := by
    intro xs el pp
    obtain ⟨a, vs, rfl, q, w⟩ := lstOf_ok S r1 el
    obtain ⟨T, id, h1, h2, h3⟩ := sl_list pins s σ H _ v vl vu lo hi sl (FzQ Q) I rx hs pl pu ⟨a, vs, rfl, q, post_lst pp S (cut_ok w lo hi)⟩
    exact ⟨T, id, h1, h2, thn h3 fun _ _ z => EP.fz z⟩
  have rest : (∀ xs, x ≠ .tup xs) → (∀ xs, x ≠ .gt xs) → ∃ T id, typeLookup (.type T) "__getitem__" = pure (some (.builtin id)) ∧ s.TypeIs v T ∧ wpAny (model X.prog X.w) X.A (getItem v (.ref sl)) (EP X pins σ Q) X.xe s := by
    intro h1 h2
    have e : slcD x lo hi h = (match lstOf h x with | some xs => .ok (.lst (cutD xs lo hi)) h | none => .bad) := by
      cases x <;> first | exact absurd rfl (h1 _) | exact absurd rfl (h2 _) | rfl
    rw [e] at p
    cases el : lstOf h x with
    | none => rw [el] at p; exact p.elim
    | some xs => rw [el] at p; exact lst el p
  cases r1 with
  | tup q w =>
    refine tup rfl (.of q) w (fun e => ?_) fun e => p
    have ec : ∀ {xs : List D}, HT.sIx xs.length 0 lo = 0 ∧ HT.sIx xs.length xs.length hi = xs.length → cutD xs lo hi = xs := by
      intro xs e
      unfold cutD
      rw [e.1, e.2, Nat.sub_zero, List.drop_zero, List.take_length]
    have p2 : Post (RvE X.K) X.K ρ H Q (.ok (.tup (cutD _ lo hi)) h) := p
    rw [ec e] at p2
    exact post_same p2 S (.tup q w)
  | gt q w =>
    simp only [slcD] at p
    refine tup rfl (.inr q) w (fun e => ?_) fun e => ?_
    · rw [if_pos e] at p; exact post_same p S (.gt q w)
    · rw [if_neg e] at p; exact p
  | non => exact rest (fun _ z => by cases z) fun _ z => by cases z
  | bl _ => exact rest (fun _ z => by cases z) fun _ z => by cases z
  | int _ => exact rest (fun _ z => by cases z) fun _ z => by cases z
  | str _ => exact rest (fun _ z => by cases z) fun _ z => by cases z
  | ty _ => exact rest (fun _ z => by cases z) fun _ z => by cases z
  | lst q w => exact lst rfl p
  | dK _ _ _ => exact rest (fun _ z => by cases z) fun _ z => by cases z
  | dT _ _ _ => exact rest (fun _ z => by cases z) fun _ z => by cases z
  | ref q => exact rest (fun _ z => by cases z) fun _ z => by cases z
end

/-! ### stores -/
section
variable {K : Fg} {ρ : Ro} {H : Hp}
theorem put_ok {κ : Type} [DecidableEq κ] {x : κ} {y : D} {w : V} (rw' : Rl ρ K H y w) : ∀ {ks : List κ} {ds : List D} {vs : List V}, Rls ρ K H ds vs → ks.length = vs.length → ks.Nodup →
    ∃ us, putK (ks.zip vs) x w = (put ks ds x y).1.zip us ∧ (put ks ds x y).1.length = us.length ∧ Rls ρ K H (put ks ds x y).2 us ∧ (put ks ds x y).1.length ≤ ks.length + 1
  | [], _, _, .nil, _, _ => ⟨[w], rfl, rfl, .cons rw' .nil, Nat.le_refl _⟩
  | [], _, _, .cons _ _, e, _ => by cases e
  | k :: ks, _, _, .cons (d := d) (v := v) (ds := ds) (vs := vs) h r, e, nd => by
    by_cases hk : k = x
    · refine ⟨w :: vs, ?_, ?_, ?_, ?_⟩
      · have e1 : putK ((k, v) :: ks.zip vs) x w = (k, w) :: ks.zip vs := by
          unfold putK
          rw [if_pos (by simp [hk])]
          rw [List.map_cons, if_pos hk]
          congr 1
          have hn : ∀ p ∈ ks.zip vs, p.1 ≠ x := fun p hp z => by
            have := (List.of_mem_zip hp).1
            rw [z, ← hk] at this
            exact (List.nodup_cons.mp nd).1 this
          conv => rhs; rw [← List.map_id (ks.zip vs)]
          refine List.map_congr_left fun p hp => ?_
          rw [if_neg (hn p hp)]
          rfl
        show putK ((k, v) :: ks.zip vs) x w = _
        rw [e1]
        unfold put
        rw [if_pos hk]
        rfl
      · unfold put; rw [if_pos hk]; simpa using e
      · unfold put; rw [if_pos hk]; exact .cons rw' r
      · unfold put; rw [if_pos hk]; exact Nat.le_succ _
    · obtain ⟨us, h1, h2, h3, h4⟩ := put_ok (x := x) rw' r (by simpa using e) (List.nodup_cons.mp nd).2
      have ep : put (k :: ks) (d :: ds) x y = (k :: (put ks ds x y).1, d :: (put ks ds x y).2) := by
        conv => lhs; unfold put; rw [if_neg hk]
      rw [ep]
      refine ⟨v :: us, ?_, ?_, ?_, ?_⟩
      · have e1 : putK ((k, v) :: ks.zip vs) x w = (k, v) :: putK (ks.zip vs) x w := by
          have hd : decide (k = x) = false := decide_eq_false hk
          unfold putK
          simp only [List.any_cons, hd, Bool.false_or, List.map_cons, if_neg hk, List.cons_append]
          split <;> rfl
        show putK ((k, v) :: ks.zip vs) x w = _
        rw [e1, h1]
        rfl
      · simpa using h2
      · exact .cons h h3
      · simpa using h4
end
section
variable {X : Cx} {pins : List (Addr × Obj)} {σ : L2.St} {H : Hp} {s : Shared}
theorem Pd.keys {α β γ : Type} {F : α → β → Prop} {f : α → γ} {g : β → γ} (hf : ∀ a b, F a b → f a = g b) : ∀ {l₁ : List α} {l₂ : List β}, Paired F l₁ l₂ → l₁.map f = l₂.map g
  | _, _, .nil => rfl
  | _, _, .cons r t => by rw [List.map_cons, List.map_cons, hf _ _ r, Pd.keys hf t]
theorem zip_keys {κ : Type} : ∀ {ks : List κ} {vs : List V}, ks.length = vs.length → (ks.zip vs).map (·.1) = ks
  | [], [], _ => rfl
  | k :: ks, v :: vs, e => by
    show k :: (ks.zip vs).map (·.1) = k :: ks
    rw [zip_keys (by simpa using e)]
theorem nodup_K {a : Addr} {kvs : List (Key × V)} (I : Inv X pins σ H s) (h : Rd H a (.dK kvs)) : (kvs.map (·.1)).Nodup := by
  obtain ⟨_, _, vs, r, o, es, ep, h1, h2, h3, h4, h5⟩ := h.ok I.hok
  replace h5 := h5.2
  rw [Pd.keys (f := (·.1)) (g := (·.1)) (fun _ _ z => z.1) r]
  exact h5
theorem nodup_T {a : Addr} {kvs : List (List Key × V)} (I : Inv X pins σ H s) (h : Rd H a (.dT kvs)) : (kvs.map (·.1)).Nodup := by
  obtain ⟨_, _, xs, r, o, es, ep, h1, h2, h3, h4, h5⟩ := h.ok I.hok
  rw [Pd.keys (f := (·.1)) (g := (·.1)) (fun _ _ z => z.1) r]
  exact h5
end
section
variable {X : Cx}
def rSt (K : Fg) : V → V → V → Hp → (Hp → Prop) → Prop := fun o i v H Q => ∃ ρ h x y z, SR ρ K h H ∧ Rl ρ K H x o ∧ Rl ρ K H y i ∧ Rl ρ K H z v ∧
  Post (fun _ _ (_ : Unit) (_ : Unit) => True) K ρ H (fun _ H' => Q H') (setD x y z h)
theorem set_any (hu : X.A.units + 1 < cLine) : PSet X (rSt X.K) := by
  rintro pins s σ H o i v ov iv u Q I ro ri rv ⟨ρ, h, x, y, z, S, r1, r2, r3, p⟩
  cases r1 with
  | ref hk =>
    rename_i k a
    simp only [setD] at p
    cases hg : h.get k with
    | none => rw [hg] at p; exact p.elim
    | some ob =>
      rw [hg] at p
      obtain ⟨b, hb, xx⟩ := S.obj k ob hg
      rw [hk] at hb; cases hb
      cases ob with
      | lst xs =>
        dsimp only at p
        obtain ⟨vs, q, w⟩ := xx
        cases y with
        | int j =>
          dsimp only at p
          cases hx : ixN xs.length j with
          | none => rw [hx] at p; exact p.elim
          | some m =>
            rw [hx] at p
            cases r2
            have mu : Mut (H a) := by rw [q]; trivial
            refine set_list pins s σ H _ _ _ ov iv u Q I ro ri rv ⟨a, vs, j, m, rfl, rfl, q, by rw [← w.length]; exact hx, ?_⟩
            refine p ρ _ () (.wr hk mu) (S.write hg hk mu ⟨_, upd_same, ?_⟩) trivial
            exact (w.set r3 m).mono (.wr (o := _) hk mu)
        | _ => exact p.elim
      | dK ks ds =>
        dsimp only at p
        obtain ⟨vs, q, zl, w⟩ := xx
        cases hy : keyOf y with
        | none => rw [hy] at p; exact p.elim
        | some key =>
          rw [hy] at p
          dsimp only at p
          by_cases hz : ks.length < sizeLine
          · rw [if_pos hz] at p
            have mu : Mut (H a) := by rw [q]; trivial
            have nd := nodup_K I (.inl q)
            rw [zip_keys zl] at nd
            obtain ⟨us, h1, h2, h3, h4⟩ := put_ok (x := key) r3 w zl nd
            obtain rfl : ov = .ref a := ro
            have hl : (ks.zip vs).length < sizeLine := by rw [List.length_zip]; omega
            refine d_setItem hu I (.inl ⟨_, key, q, keyOf_ok r2 hy, hl, rfl⟩) ri rv fun s' I' => ⟨_, I', ?_⟩
            rw [h1]
            refine p ρ _ () (.wr hk mu) (S.write hg hk mu ⟨us, upd_same, h2, ?_⟩) trivial
            exact h3.mono (.wr (o := _) hk mu)
          · rw [if_neg hz] at p; exact p.elim
      | dT ks ds =>
        dsimp only at p
        obtain ⟨vs, q, zl, w⟩ := xx
        cases hy : tkOf y with
        | none => rw [hy] at p; exact p.elim
        | some key =>
          rw [hy] at p
          dsimp only at p
          by_cases hz : ks.length < sizeLine
          · rw [if_pos hz] at p
            have mu : Mut (H a) := by rw [q]; trivial
            have nd := nodup_T I (.inl q)
            rw [zip_keys zl] at nd
            obtain ⟨us, h1, h2, h3, h4⟩ := put_ok (x := key) r3 w zl nd
            obtain rfl : ov = .ref a := ro
            have hl : (ks.zip vs).length < sizeLine := by rw [List.length_zip]; omega
            obtain ⟨c, rfl, hc⟩ := tkOf_ok r2 hy
            refine d_setItem hu I (.inr ⟨_, key, c, q, rfl, hc, hl, rfl⟩) ri rv fun s' I' => ⟨_, I', ?_⟩
            rw [h1]
            refine p ρ _ () (.wr hk mu) (S.write hg hk mu ⟨us, upd_same, h2, ?_⟩) trivial
            exact h3.mono (.wr (o := _) hk mu)
          · rw [if_neg hz] at p; exact p.elim
      | _ => exact p.elim
  | _ => exact p.elim
end
end VI

/-! VIf: freezing what may change; calls of built-ins and their methods by values. -/
namespace VI
open PySem PySem.Spec PyProof.Rows L2

/-! ### freezing -/
def Fzb : HO → Prop
  | .lst _ => True
  | .dK _ => True
  | .dT _ => True
  | _ => False
def FzA (Q : VK) : VK := fun v H => Q v H ∨ ∃ a u, v = .ref a ∧ H a = some u ∧ Fzb u ∧ ∀ o, Q v (upd H a (.frz o u))
section
variable {X : Cx} {pins : List (Addr × Obj)} {σ : L2.St} {H : Hp} {s : Shared} {Q : VK} {u : Value}
theorem inv_fzA {a : Addr} {x : HO} (I : Inv X pins σ H s) (ha : H a = some x) (hb : Fzb x) : ∃ o, Inv X pins σ (upd H a (.frz o x)) s := by
  cases x with
  | lst xs => exact inv_fz I ha
  | dK kvs => exact inv_fzD I ha trivial (fun _ _ _ z => nomatch z) fun _ _ _ z => z
  | dT kvs =>
    refine inv_fzD I ha trivial (fun _ _ _ z => nomatch z) fun H1 H2 ht z => ?_
    obtain ⟨z1, z2, xs, r, z3⟩ := z
    exact ⟨z1, z2, xs, Paired.mapP r fun p q w => ⟨w.1, ht _ _ w.2.1, w.2.2⟩, z3⟩
  | _ => exact hb.elim
theorem EP.fzA (h : EP X pins σ (FzA Q) u s) : EP X pins σ Q u s := by
  obtain ⟨v, H', I, r, q | ⟨a, x, rfl, ha, hb, q⟩⟩ := h
  · exact ⟨v, H', I, r, q⟩
  · obtain ⟨o, J⟩ := inv_fzA I ha hb
    exact ⟨_, _, J, r, q o⟩
theorem PE.fzA {e : Expr} {t : TE} (h : PE X e t) : PE X e (fun σ H Q => t σ H (FzA Q)) := ⟨fun pins s σ H Q I q => thn (h.run pins s σ H _ I q) fun _ _ z => EP.fzA z⟩
end
section
variable {K : Fg} {ρ : Ro} {H : Hp} {h : IH} {Q : VK} {d : D} {v : V}
theorem freeze_ok (S : SR ρ K h H) (r : Rl ρ K H d v) (p : Post (RvE K) K ρ H Q (freeze d h)) : FzA Q v H := by
  cases r with
  | ref hk =>
    rename_i k a
    simp only [freeze] at p
    cases hg : h.get k with
    | none => rw [hg] at p; exact p.elim
    | some ob =>
      rw [hg] at p
      obtain ⟨b, hb, x⟩ := S.obj k ob hg
      rw [hk] at hb; cases hb
      cases ob with
      | lst xs =>
        obtain ⟨vs, q, w⟩ := x
        have mu : Mut (H a) := by rw [q]; trivial
        refine .inr ⟨a, _, rfl, q, trivial, fun o => ?_⟩
        refine p ρ _ _ (.wr hk mu) (S.write hg hk mu ⟨vs, o, upd_same, w.mono (.wr (o := _) hk mu)⟩) ?_
        exact .lst (.inl ⟨o, upd_same⟩) (w.mono (.wr (o := _) hk mu))
      | fz xs =>
        obtain ⟨vs, o, q, w⟩ := x
        exact .inl (post_same p S (.lst (.inl ⟨o, q⟩) w))
      | dK ks ds =>
        obtain ⟨vs, q, zl, w⟩ := x
        have mu : Mut (H a) := by rw [q]; trivial
        refine .inr ⟨a, _, rfl, q, trivial, fun o => ?_⟩
        refine p ρ _ _ (.wr hk mu) (S.write hg hk mu ⟨vs, o, upd_same, zl, w.mono (.wr (o := _) hk mu)⟩) ?_
        exact .dK upd_same zl (w.mono (.wr (o := _) hk mu))
      | dT ks ds =>
        obtain ⟨vs, q, zl, w⟩ := x
        have mu : Mut (H a) := by rw [q]; trivial
        refine .inr ⟨a, _, rfl, q, trivial, fun o => ?_⟩
        refine p ρ _ _ (.wr hk mu) (S.write hg hk mu ⟨vs, o, upd_same, zl, w.mono (.wr (o := _) hk mu)⟩) ?_
        exact .dT upd_same zl (w.mono (.wr (o := _) hk mu))
      | zK ks ds =>
        obtain ⟨vs, o, q, zl, w⟩ := x
        exact .inl (post_same p S (.dK q zl w))
      | zT ks ds =>
        obtain ⟨vs, o, q, zl, w⟩ := x
        exact .inl (post_same p S (.dT q zl w))
  | non => exact .inl (post_same p S .non)
  | bl b => exact .inl (post_same p S (.bl b))
  | int b => exact .inl (post_same p S (.int b))
  | str b => exact .inl (post_same p S (.str b))
  | ty b => exact .inl (post_same p S (.ty b))
  | tup q w => exact .inl (post_same p S (.tup q w))
  | gt q w => exact .inl (post_same p S (.gt q w))
  | lst q w => exact .inl (post_same p S (.lst q w))
  | dK q z w => exact .inl (post_same p S (.dK q z w))
  | dT q z w => exact .inl (post_same p S (.dT q z w))
end

/-! ### calls of built-ins -/
def rC (K : Fg) (f : List D → IH → R D) : List V → Hp → VK → Prop := fun vs H Q => ∃ ρ h ds, SR ρ K h H ∧ Rls ρ K H ds vs ∧ Post (RvE K) K ρ H Q (f ds h)
section
variable {K : Fg} {ρ : Ro} {H : Hp}
theorem bls_ok : ∀ {ds : List D} {vs : List V} {bs : List Bool}, Rls ρ K H ds vs → blsOf ds = some bs → vs = bs.map V.bl
  | _, _, _, .nil, e => by cases e; rfl
  | _, _, _, .cons (d := d) (ds := ds) h r, e => by
    cases h with
    | bl b =>
      simp only [blsOf] at e
      cases hb : blsOf ds with
      | none => rw [hb] at e; cases e
      | some bs => rw [hb] at e; cases e; rw [bls_ok r hb]; rfl
    | _ => cases e
theorem Rls.inv1 {d : D} {vs : List V} (r : Rls ρ K H [d] vs) : ∃ v, vs = [v] ∧ Rl ρ K H d v := by
  cases r with
  | cons h r => cases r; exact ⟨_, rfl, h⟩
theorem Rls.inv2 {d e : D} {vs : List V} (r : Rls ρ K H [d, e] vs) : ∃ v w, vs = [v, w] ∧ Rl ρ K H d v ∧ Rl ρ K H e w := by
  cases r with
  | cons h r => cases r with
    | cons g r => cases r; exact ⟨_, _, rfl, h, g⟩
end
/-- the built-in behind a word: its name in Python, its value -/
def bltV : Blt → Option (String × Value)
  | .len => some ("len", .builtin "len")
  | .all => some ("all", .builtin "all")
  | .any => some ("any", .builtin "any")
  | .absI => some ("abs", .builtin "abs")
  | .intI => some ("int", .type "int")
  | .tuple => some ("tuple", .type "tuple")
  | .list => some ("list", .type "list")
  | _ => none
section
variable {X : Cx}
theorem call_blt (b : Blt) {n : String} {f : Value} (hb : bltV b = some (n, f)) (hc : X.calm = true) : CallR X f (rC X.K (bltD b)) := by
  rintro pins s σ H vs us Q I rv ⟨ρ, h, ds, S, r, p⟩
  cases b with
  | len =>
    cases hb
    match ds, r, p with
    | [d], r, p =>
      obtain ⟨v, rfl, r0⟩ := r.inv1
      have seq : ∀ {ys : List D}, seqOf h d = some ys → Post (RvE X.K) X.K ρ H Q (.ok (.int ys.length) h) → wpAny (model X.prog X.w) X.A (call (.builtin "len") us) (EP X pins σ Q) X.xe s := by
        intro ys e pp
        obtain ⟨a, xs, rfl, q, w⟩ := seqOf_ok S r0 e
        rw [w.length] at pp
        refine call_len pins s σ H _ us Q I rv ⟨_, xs.length, rfl, ?_, post_same pp S (.int _)⟩
        rcases q with q | q
        · exact .inl ⟨xs, q, rfl⟩
        · exact .inr ⟨xs, q, rfl⟩
      have gen : (∀ t, d ≠ .str t) → wpAny (model X.prog X.w) X.A (call (.builtin "len") us) (EP X pins σ Q) X.xe s := by
        intro hd
        have e : bltD .len [d] h = (match seqOf h d with
          | some ys => .ok (.int ys.length) h
          | none => .bad) := by
          cases d <;> first | exact absurd rfl (hd _) | rfl
        rw [e] at p
        cases es : seqOf h d with
        | none => rw [es] at p; exact p.elim
        | some ys => rw [es] at p; exact seq es p
      cases d with
      | str t =>
        cases r0
        simp only [bltD] at p
        by_cases hz : t.length ≤ sizeLine
        · rw [if_pos hz] at p
          exact call_len pins s σ H _ us Q I rv ⟨_, t.length, rfl, ⟨hz, rfl⟩, post_same p S (.int _)⟩
        · rw [if_neg hz] at p; exact p.elim
      | _ => exact gen fun t z => by cases z
    | [], _, p => exact False.elim p
    | x :: _ :: _, _, p => exact absurd p (by cases x <;> exact fun q => q)
  | all =>
    cases hb
    match ds, r, p with
    | [d], r, p =>
      obtain ⟨v, rfl, r0⟩ := r.inv1
      simp only [bltD] at p
      cases hl : lstOf h d with
      | none => rw [hl] at p; exact p.elim
      | some xs =>
        rw [hl] at p
        simp only [Option.bind_some] at p
        cases hx : blsOf xs with
        | none => rw [hx] at p; exact p.elim
        | some bs =>
          rw [hx] at p
          obtain ⟨a, ys, rfl, q, w⟩ := lstOf_ok S r0 hl
          rw [bls_ok w hx] at q
          exact cr_all hc pins s σ H _ us Q I rv ⟨a, bs, rfl, q, post_same p S (.bl _)⟩
    | [], _, p => exact False.elim p
    | x :: _ :: _, _, p => exact absurd p (by cases x <;> exact fun q => q)
  | any =>
    cases hb
    match ds, r, p with
    | [d], r, p =>
      obtain ⟨v, rfl, r0⟩ := r.inv1
      simp only [bltD] at p
      cases hl : lstOf h d with
      | none => rw [hl] at p; exact p.elim
      | some xs =>
        rw [hl] at p
        simp only [Option.bind_some] at p
        cases hx : blsOf xs with
        | none => rw [hx] at p; exact p.elim
        | some bs =>
          rw [hx] at p
          obtain ⟨a, ys, rfl, q, w⟩ := lstOf_ok S r0 hl
          rw [bls_ok w hx] at q
          exact cr_any hc pins s σ H _ us Q I rv ⟨a, bs, rfl, q, post_same p S (.bl _)⟩
    | [], _, p => exact False.elim p
    | x :: _ :: _, _, p => exact absurd p (by cases x <;> exact fun q => q)
  | absI =>
    cases hb
    match ds, r, p with
    | [.int i], r, p =>
      obtain ⟨v, rfl, r0⟩ := r.inv1
      cases r0
      exact call_abs pins s σ H _ us Q I rv ⟨i, rfl, post_same p S (.int _)⟩
    | [], _, p => exact False.elim p
    | x :: _ :: _, _, p => exact absurd p (by cases x <;> exact fun q => q)
    | [.non], _, p => exact False.elim p
    | [.bl _], _, p => exact False.elim p
    | [.str _], _, p => exact False.elim p
    | [.ty _], _, p => exact False.elim p
    | [.tup _], _, p => exact False.elim p
    | [.gt _], _, p => exact False.elim p
    | [.lst _], _, p => exact False.elim p
    | [.dK _ _], _, p => exact False.elim p
    | [.dT _ _], _, p => exact False.elim p
    | [.ref _], _, p => exact False.elim p
  | intI =>
    cases hb
    match ds, r, p with
    | [.int i], r, p =>
      obtain ⟨v, rfl, r0⟩ := r.inv1
      cases r0
      exact call_int1 pins s σ H _ us Q I rv (.inl ⟨i, rfl, post_same p S (.int _)⟩)
    | [.bl k], r, p =>
      obtain ⟨v, rfl, r0⟩ := r.inv1
      cases r0
      exact call_int1 pins s σ H _ us Q I rv (.inr ⟨k, rfl, post_same p S (.int _)⟩)
    | [], _, p => exact False.elim p
    | x :: _ :: _, _, p => exact absurd p (by cases x <;> exact fun q => q)
    | [.non], _, p => exact False.elim p
    | [.str _], _, p => exact False.elim p
    | [.ty _], _, p => exact False.elim p
    | [.tup _], _, p => exact False.elim p
    | [.gt _], _, p => exact False.elim p
    | [.lst _], _, p => exact False.elim p
    | [.dK _ _], _, p => exact False.elim p
    | [.dT _ _], _, p => exact False.elim p
    | [.ref _], _, p => exact False.elim p
  | tuple =>
    cases hb
    match ds, r, p with
    | [d], r, p =>
      obtain ⟨v, rfl, r0⟩ := r.inv1
      have lst : ∀ {ys : List D}, lstOf h d = some ys → Post (RvE X.K) X.K ρ H Q (.ok (.tup ys) h) → wpAny (model X.prog X.w) X.A (call (.type "tuple") us) (EP X pins σ Q) X.xe s := by
        intro ys e pp
        obtain ⟨a, xs, rfl, q, w⟩ := lstOf_ok S r0 e
        exact call_tuple_of pins s σ H _ us Q I rv ⟨a, xs, rfl, .inl ⟨q, post_tup pp S w⟩⟩
      have gen : (∀ t, d ≠ .tup t) → (∀ t, d ≠ .gt t) → wpAny (model X.prog X.w) X.A (call (.type "tuple") us) (EP X pins σ Q) X.xe s := by
        intro h1 h2
        have e : bltD .tuple [d] h = (match lstOf h d with
          | some ys => .ok (.tup ys) h
          | none => .bad) := by
          cases d <;> first | exact absurd rfl (h1 _) | exact absurd rfl (h2 _) | rfl
        rw [e] at p
        cases es : lstOf h d with
        | none => rw [es] at p; exact p.elim
        | some ys => rw [es] at p; exact lst es p
      cases d with
      | tup t =>
        cases r0 with
        | tup q w => exact call_tuple_of pins s σ H _ us Q I rv ⟨_, _, rfl, .inr ⟨.of q, post_same p S (.tup q w)⟩⟩
      | gt t =>
        cases r0 with
        | gt q w => exact call_tuple_of pins s σ H _ us Q I rv ⟨_, _, rfl, .inr ⟨.inr q, post_same p S (.gt q w)⟩⟩
      | _ => exact gen (fun t z => by cases z) fun t z => by cases z
    | [], _, p => exact False.elim p
    | x :: _ :: _, _, p => exact absurd p (by cases x <;> exact fun q => q)
  | list =>
    cases hb
    match ds, r, p with
    | [d], r, p =>
      obtain ⟨v, rfl, r0⟩ := r.inv1
      simp only [bltD] at p
      cases hl : seqOf h d with
      | none => rw [hl] at p; exact p.elim
      | some xs =>
        rw [hl] at p
        obtain ⟨a, ys, rfl, q, w⟩ := seqOf_ok S r0 hl
        exact CallR.fz call_list_of pins s σ H _ us Q I rv ⟨a, ys, rfl, q, post_lst p S w⟩
    | [], _, p => exact False.elim p
    | x :: _ :: _, _, p => exact absurd p (by cases x <;> exact fun q => q)
  | _ => cases hb
end
end VI

/-! VIw: sorted(xs). -/
namespace VI
open PySem PySem.Spec PyProof.Rows L2

/-! ### the order -/
theorem strLt_eq : ∀ a b : List Nat, strLt a b = decide (a < b)
  | [], [] => by simp [strLt]
  | [], _ :: _ => by simp [strLt]
  | _ :: _, [] => by simp [strLt]
  | x :: a, y :: b => by
    unfold strLt
    by_cases h : x = y
    · subst h
      rw [if_pos (beq_self_eq_true _), strLt_eq a b]
      exact decide_eq_decide.mpr ⟨fun z => List.cons_lt_cons_iff.mpr (.inr ⟨rfl, z⟩), fun z => (List.cons_lt_cons_iff.mp z).elim (fun q => absurd q (Nat.lt_irrefl _)) (·.2)⟩
    · rw [if_neg (by simpa using h)]
      exact decide_eq_decide.mpr ⟨fun z => List.cons_lt_cons_iff.mpr (.inl z), fun z => (List.cons_lt_cons_iff.mp z).elim id fun q => absurd q.1 h⟩
theorem ltI_eq (x y : SI) : ltI x y = itemOrd.blt x y := by
  cases x <;> cases y <;> first | rfl | exact strLt_eq _ _
theorem ltS_eq : ∀ a b : List SI, ltS a b = lexLt itemOrd a b
  | [], [] => rfl
  | [], _ :: _ => rfl
  | _ :: _, [] => rfl
  | x :: a, y :: b => by
    show (ltI x y || (!ltI y x && ltS a b)) = (itemOrd.blt x y || (!itemOrd.blt y x && lexLt itemOrd a b))
    rw [ltI_eq, ltI_eq, ltS_eq a b]
theorem swo_key {α : Type} (k : α → List SI) : SrtO.Swo fun x y => ltS (k x) (k y) := by
  have O := listOrd itemOrd
  refine ⟨fun x y h => ?_, fun x y z h1 h2 => ?_⟩
  · rw [ltS_eq] at h ⊢
    rcases SrtO.bcase (lexLt itemOrd (k y) (k x)) with q | q
    · have := (listOrd itemOrd).trans _ _ _ h q
      rw [(listOrd itemOrd).irrefl] at this
      cases this
    · exact q
  · rw [ltS_eq] at h1 h2 ⊢
    rcases SrtO.bcase (lexLt itemOrd (k z) (k x)) with q | q
    · rcases (listOrd itemOrd).negTrans _ (k y) _ q with c | c
      · rw [show lexLt itemOrd (k z) (k y) = true from c] at h2; cases h2
      · rw [show lexLt itemOrd (k y) (k x) = true from c] at h1; cases h1
    · exact q
section
variable {α β : Type} {lt : α → α → Bool}
theorem ins_split (x : α) : ∀ l : List α, ∃ p q, insBy lt x l = p ++ x :: q ∧ l = p ++ q ∧ (∀ y ∈ p, lt y x = true) ∧ ∀ y, q.head? = some y → lt y x = false
  | [] => ⟨[], [], rfl, rfl, fun y hy => by (cases hy), fun y hy => by (cases hy)⟩
  | y :: l => by
    unfold insBy
    by_cases h : lt y x = true
    · obtain ⟨p, q, e1, e2, e3, e4⟩ := ins_split x l
      refine ⟨y :: p, q, by rw [if_pos h, e1]; rfl, by rw [e2]; rfl, fun z hz => ?_, e4⟩
      rcases List.mem_cons.mp hz with z' | z'
      · rw [z']; exact h
      · exact e3 z z'
    · refine ⟨[], y :: l, by rw [if_neg h]; rfl, rfl, (fun z hz => by cases hz), fun z hz => ?_⟩
      cases hz
      exact Bool.eq_false_iff.mpr h
theorem isort_ok (O : SrtO.Swo lt) : ∀ l : List α, SrtO.Srtd lt (isort lt l) ∧ SrtO.Stb lt (isort lt l) l
  | [] => ⟨List.Pairwise.nil, SrtO.Stb.refl _⟩
  | x :: l => by
    obtain ⟨h1, h2⟩ := isort_ok O l
    obtain ⟨p, q, e1, e2, e3, e4⟩ := ins_split (lt := lt) x (isort lt l)
    show SrtO.Srtd lt (insBy lt x (isort lt l)) ∧ SrtO.Stb lt (insBy lt x (isort lt l)) (x :: l)
    rw [e1]
    rw [e2] at h1 h2
    have q0 : ∀ y ∈ q, lt y x = false := by
      cases q with
      | nil => intro y hy; cases hy
      | cons z q =>
        have hz := e4 z rfl
        have hs := (SrtO.srtd_app.mp h1).2.1
        exact O.le_all hs (by
          rcases SrtO.bcase (lt z x) with c | c
          · rw [c] at hz; cases hz
          · exact c)
    refine ⟨?_, ?_⟩
    · obtain ⟨a, b, c⟩ := SrtO.srtd_app.mp h1
      refine SrtO.srtd_app.mpr ⟨a, List.pairwise_cons.mpr ⟨q0, b⟩, fun y hy z hz => ?_⟩
      rcases List.mem_cons.mp hz with e | hz
      · rw [e]; exact O.asym _ _ (e3 y hy)
      · exact c y hy z hz
    · have s1 : SrtO.Stb lt (p ++ [x]) ([x] ++ p) := SrtO.Stb.swap O fun a ha b hb => by rw [List.mem_singleton.mp hb]; exact e3 a ha
      have s2 := (s1.app (SrtO.Stb.refl q)).trans (SrtO.Stb.of_eq (show [x] ++ p ++ q = [x] ++ (p ++ q) by simp))
      have s3 := s2.trans ((SrtO.Stb.refl [x]).app h2)
      exact (SrtO.Stb.of_eq (show p ++ x :: q = p ++ [x] ++ q by simp)).trans s3
theorem ins_map (f : α → β) (lt' : β → β → Bool) (x : α) : ∀ l : List α, (∀ y ∈ l, lt y x = lt' (f y) (f x)) → (insBy lt x l).map f = insBy lt' (f x) (l.map f)
  | [], _ => rfl
  | y :: l, h => by
    show (if lt y x = true then y :: insBy lt x l else x :: y :: l).map f = if lt' (f y) (f x) = true then f y :: insBy lt' (f x) (l.map f) else f x :: f y :: l.map f
    rw [← h y List.mem_cons_self]
    by_cases c : lt y x = true
    · rw [if_pos c, if_pos c, List.map_cons, ins_map f lt' x l fun z hz => h z (List.mem_cons_of_mem _ hz)]
    · rw [if_neg c, if_neg c]; rfl
theorem isort_map (O : SrtO.Swo lt) (f : α → β) (lt' : β → β → Bool) : ∀ l : List α, (∀ x ∈ l, ∀ y ∈ l, lt x y = lt' (f x) (f y)) → (isort lt l).map f = isort lt' (l.map f)
  | [], _ => rfl
  | x :: l, h => by
    show (insBy lt x (isort lt l)).map f = insBy lt' (f x) (isort lt' (l.map f))
    rw [ins_map f lt' x _ fun y hy => h y (List.mem_cons_of_mem _ ((isort_ok O l).2.perm.mem_iff.mp hy)) x List.mem_cons_self]
    rw [isort_map O f lt' l fun a ha b hb => h a (List.mem_cons_of_mem _ ha) b (List.mem_cons_of_mem _ hb)]
end
/-! ### the values as they lie -/
def itS : Value → SI
  | .int n _ => .inl n
  | .str x _ => .inr x.cps.toList
  | _ => .inl 0
def kvS (h : Heap) : Value → List SI
  | .int n _ => [.inl n]
  | .str x _ => [.inr x.cps.toList]
  | .ref a => match h.get? a with
    | some o => match o.data with
      | .seq xs _ => xs.toList.map itS
      | _ => []
    | none => []
  | _ => []
def shapeOf (k : List Bool) : Nat → Bool := fun i => k.getD i false
/-- a value of a form -/
def FormV (h : Heap) (b : Bool) (k : List Bool) (key : List SI) (u : Value) : Prop :=
  if b = true then ∃ a o xs n f, u = .ref a ∧ h.get? a = some o ∧ o.cls = .type "tuple" ∧ o.data = .seq xs n ∧ tupItems (shapeOf k) 0 xs.toList = some key ∧ xs[0]? = some f ∧ (shapeOf k 0 = false → ∃ n t, f = .int n t) ∧ (shapeOf k 0 = true → ∃ x t, f = .str x t)
  else (k = [false] ∧ ∃ n t, u = .int n t ∧ key = [.inl n]) ∨ (k = [true] ∧ ∃ x t, u = .str x t ∧ key = [.inr x.cps.toList])
theorem tupItems_of (k : List Bool) : ∀ (ks : List Key) (i : Nat) (us : List Value), (∀ j x, ks[j]? = some x → shapeOf k (i + j) = isTxt x) → Vals (ks.map kV) us → tupItems (shapeOf k) i us = some (ks.map keyS) ∧ us.map itS = ks.map keyS
  | [], i, us, _, r => by
    cases r
    exact ⟨rfl, rfl⟩
  | x :: ks, i, us, h, r => by
    cases r with
    | cons r0 r1 =>
      rename_i u us
      obtain ⟨a1, a2⟩ := tupItems_of k ks (i + 1) us (fun j y e => by have := h (j + 1) y (by simpa using e); rw [← this]; congr 1; omega) r1
      have h0 := h 0 x rfl
      rw [Nat.add_zero] at h0
      cases x with
      | inl n =>
        obtain ⟨t, rfl⟩ := (show ∃ t, u = Value.int n t from r0)
        refine ⟨?_, by rw [List.map_cons, List.map_cons, a2]; rfl⟩
        show (if shapeOf k i = true then none else (tupItems (shapeOf k) (i + 1) us).map (Sum.inl n :: ·)) = _
        rw [h0, a1]
        rfl
      | inr z =>
        obtain ⟨t, rfl⟩ := (show ∃ t, u = Value.str z t from r0)
        refine ⟨?_, by rw [List.map_cons, List.map_cons, a2]; rfl⟩
        show (if shapeOf k i = true then (tupItems (shapeOf k) (i + 1) us).map (Sum.inr z.cps.toList :: ·) else none) = _
        rw [h0, a1]
        rfl
theorem form_of {X : Cx} {pins : List (Addr × Obj)} {σ : L2.St} {H : Hp} {s : Shared} {ρ : Ro} {d : D} {v : V} {u : Value} {b : Bool} {k : List Bool} {key : List SI} (I : Inv X pins σ H s) (r : Rl ρ X.K H d v) (rv : RelV v u) (e : skd d = some (b, k, key)) :
    FormV s.heap b k key u ∧ kvS s.heap u = key := by
  cases r with
  | int i =>
    cases e
    obtain ⟨t, rfl⟩ := (show ∃ t, u = Value.int i t from rv)
    exact ⟨.inl ⟨rfl, i, t, rfl, rfl⟩, rfl⟩
  | str z =>
    cases e
    obtain ⟨t, rfl⟩ := (show ∃ t, u = Value.str z t from rv)
    exact ⟨.inr ⟨rfl, z, t, rfl, rfl⟩, rfl⟩
  | tup q w =>
    rename_i a xs ds
    simp only [skd] at e
    cases hk : keysOf ds with
    | none => rw [hk] at e; cases e
    | some ks =>
      rw [hk] at e
      cases ks with
      | nil => cases e
      | cons k0 ks =>
        cases e
        obtain rfl : u = Value.ref a := rv
        have exs := keysOf_ok w hk
        subst exs
        obtain ⟨_, its, rvs, o, ho, hc, n, hd⟩ := (show ObjOk X.prog X.w H s.heap a (.tup ((k0 :: ks).map kV)) from I.hok a _ q)
        obtain ⟨t1, t2⟩ := tupItems_of ((k0 :: ks).map isTxt) (k0 :: ks) 0 its (fun j x hx => by unfold shapeOf; rw [Nat.zero_add, List.getD_eq_getElem?_getD, List.getElem?_map, hx]; rfl) rvs
        refine ⟨?_, ?_⟩
        · obtain ⟨f, hf, rf⟩ := rvs.get (i := 0) (x := kV k0) rfl
          refine ⟨a, o, its.toArray, n, f, rfl, ho, hc, hd, by simpa using t1, by simpa using hf, fun hs => ?_, fun hs => ?_⟩
          · cases k0 with
            | inl m => obtain ⟨t, rfl⟩ := (show ∃ t, f = Value.int m t from rf); exact ⟨m, t, rfl⟩
            | inr z => exact absurd hs (by show ¬ true = false; decide)
          · cases k0 with
            | inl m => exact absurd hs (by show ¬ false = true; decide)
            | inr z => obtain ⟨t, rfl⟩ := (show ∃ t, f = Value.str z t from rf); exact ⟨z, t, rfl⟩
        · show (match s.heap.get? a with | some o => (match o.data with | .seq xs _ => xs.toList.map itS | _ => []) | none => []) = _
          rw [ho]
          dsimp only
          rw [hd]
          simpa using t2
  | _ => cases e
theorem FormV.keeps {h h' : Heap} {b : Bool} {k : List Bool} {key : List SI} {u : Value} (x : FormV h b k key u) (kp : ∀ a o, h.get? a = some o → o.cls = .type "tuple" → h'.get? a = some o) : FormV h' b k key u := by
  unfold FormV at x ⊢
  cases b with
  | false => exact x
  | true =>
    obtain ⟨a, o, xs, n, f, e, ho, hc, r⟩ := x
    exact ⟨a, o, xs, n, f, e, kp a o ho hc, hc, r⟩
section
variable {prog : Program} {w : World} {A : Around} {s : Shared}
theorem forms_sortable {a : Addr} {us : List Value} {b : Bool} {k : List Bool} {kf : Value → List SI} (h2 : 2 ≤ us.length) (hf : ∀ u ∈ us, FormV s.heap b k (kf u) u) (ha : ∀ o, s.heap.get? a = some o → o.cls ≠ .type "tuple") : SrtO.SortableO prog w A s a us fun v u => ltS (kf v) (kf u) := by
  intro h' keep
  have hf' : ∀ u ∈ us, FormV h' b k (kf u) u := fun u hu => (hf u hu).keeps fun c o e hc => keep c o (fun z => by subst z; exact ha o e hc) e
  cases b with
  | true =>
    have tl : ∀ vs : List Value, (∀ u ∈ vs, FormV h' true k (kf u) u) → ∃ fs, TupsOf h' (shapeOf k) vs fs ∧ fs.length = vs.length := by
      intro vs
      induction vs with
      | nil => intro _; exact ⟨[], .nil, rfl⟩
      | cons v vs ih =>
        intro hv
        obtain ⟨fs, t, l⟩ := ih fun u hu => hv u (List.mem_cons_of_mem _ hu)
        obtain ⟨c, o, xs, n, f, e, ho, hc, hd, _, h0, h1, h2⟩ := hv v List.mem_cons_self
        exact ⟨f :: fs, .cons ⟨c, o, xs, n, e, ho, hc, hd, h0, h1, h2⟩ t, by simp [l]⟩
    obtain ⟨fs, t, l⟩ := tl us hf'
    refine ⟨tuples' true, fun Q E hq => tup_kind (s := { s with heap := h' }) (by omega) t hq, fun p q hp hq => ?_⟩
    have key : ∀ u ∈ us, (tupKind h' (shapeOf k)).keyOf u = some (kf u) := fun u hu => by
      obtain ⟨c, o, xs, n, f, e, ho, hc, hd, ht, _⟩ := hf' u hu
      subst e
      show tupKey h' (shapeOf k) (.ref c) = _
      unfold tupKey
      dsimp only
      rw [ho]
      dsimp only
      rw [hd]
      exact ht
    exact tup_ltAt (s := { s with heap := h' }) true _ _ p.1 q.1 (kf p.1) (kf q.1) (key _ hp) (key _ hq) ⟨rfl, (ltS_eq _ _).symm⟩
  | false =>
    have one : (∀ u ∈ us, ∃ n t, u = .int n t ∧ kf u = [.inl n]) ∨ ∀ u ∈ us, ∃ x t, u = .str x t ∧ kf u = [.inr x.cps.toList] := by
      rcases us with _ | ⟨u0, us⟩
      · simp at h2
      · rcases hf' u0 List.mem_cons_self with ⟨e0, _⟩ | ⟨e0, _⟩
        · left
          intro u hu
          rcases hf' u hu with ⟨_, z⟩ | ⟨z, _⟩
          · exact z
          · rw [e0] at z; cases z
        · right
          intro u hu
          rcases hf' u hu with ⟨z, _⟩ | ⟨_, z⟩
          · rw [e0] at z; cases z
          · exact z
    match us, h2, one with
    | v1 :: v2 :: vs, _, one =>
      rcases one with one | one
      · have ia : ∀ l : List Value, (∀ u ∈ l, ∃ n t, u = .int n t ∧ kf u = [.inl n]) → ∃ ns, IntsAre l ns := by
          intro l
          induction l with
          | nil => intro _; exact ⟨[], .nil⟩
          | cons v l ih =>
            intro hv
            obtain ⟨ns, t⟩ := ih fun u hu => hv u (List.mem_cons_of_mem _ hu)
            obtain ⟨n, tk, rfl, _⟩ := hv v List.mem_cons_self
            exact ⟨n :: ns, .cons n tk t⟩
        obtain ⟨ns, hn⟩ := ia _ one
        refine ⟨oneType', fun Q E hq => by rw [keyKind_ints hn]; exact wpAny_pure hq, fun p q hp hq => ?_⟩
        obtain ⟨n, t, e1, e2⟩ := one _ hp
        obtain ⟨m, t', e3, e4⟩ := one _ hq
        show wpAny _ _ (keyLt' oneType' p.1 q.1) (fun r s' => s' = _ ∧ r = ltS (kf p.1) (kf q.1)) _ _
        rw [e2, e4, e1, e3]
        refine PySem.W.kat_lt_int ⟨rfl, ?_⟩
        show decide (n < m) = (decide (n < m) || (!decide (m < n) && false))
        simp
      · have ia : ∀ l : List Value, (∀ u ∈ l, ∃ x t, u = .str x t ∧ kf u = [.inr x.cps.toList]) → ∃ ns, StrsAre l ns := by
          intro l
          induction l with
          | nil => intro _; exact ⟨[], .nil⟩
          | cons v l ih =>
            intro hv
            obtain ⟨ns, t⟩ := ih fun u hu => hv u (List.mem_cons_of_mem _ hu)
            obtain ⟨n, tk, rfl, _⟩ := hv v List.mem_cons_self
            exact ⟨n :: ns, .cons n tk t⟩
        obtain ⟨ns, hn⟩ := ia _ one
        refine ⟨oneType', fun Q E hq => by rw [keyKind_strs hn]; exact wpAny_pure hq, fun p q hp hq => ?_⟩
        obtain ⟨n, t, e1, e2⟩ := one _ hp
        obtain ⟨m, t', e3, e4⟩ := one _ hq
        show wpAny _ _ (keyLt' oneType' p.1 q.1) (fun r s' => s' = _ ∧ r = ltS (kf p.1) (kf q.1)) _ _
        rw [e2, e4, e1, e3]
        refine PySem.W.kas_lt_str ⟨rfl, ?_⟩
        show decide (n.cps.toList < m.cps.toList) = (strLt n.cps.toList m.cps.toList || (!strLt m.cps.toList n.cps.toList && false))
        rw [strLt_eq]
        simp
end
/-- what sortD has seen -/
theorem sortD_form {ys zs : List D} (e : sortD ys = some zs) (h2 : 2 ≤ ys.length) : zs = isort (fun x y => ltS (skey x) (skey y)) ys ∧ ∃ b k, ∀ z ∈ ys, ∃ key, skd z = some (b, k, key) := by
  match ys, h2, e with
  | y :: y2 :: r, _, e =>
    simp only [sortD] at e
    cases hs : skd y with
    | none => rw [hs] at e; cases e
    | some t =>
      obtain ⟨b, k, key⟩ := t
      rw [hs] at e
      dsimp only at e
      by_cases hc : (y :: y2 :: r).all (sameForm b k) = true
      · rw [if_pos hc] at e
        cases e
        refine ⟨rfl, b, k, fun z hz => ?_⟩
        have := List.all_eq_true.mp hc z hz
        unfold sameForm at this
        cases hz' : skd z with
        | none => rw [hz'] at this; cases this
        | some t =>
          obtain ⟨b', k', key'⟩ := t
          rw [hz'] at this
          simp only [Bool.and_eq_true, beq_iff_eq] at this
          obtain ⟨rfl, rfl⟩ := this
          exact ⟨key', rfl⟩
      · rw [if_neg hc] at e; cases e
theorem short_perm {α : Type} {l m : List α} (h : l.Perm m) (h2 : m.length < 2) : l = m := by
  match m, h2, h with
  | [], _, h => exact List.Perm.eq_nil h
  | [x], _, h => exact List.perm_singleton.mp h
theorem sortD_short {ys zs : List D} (e : sortD ys = some zs) (h2 : ys.length < 2) : zs = ys := by
  match ys, h2, e with
  | [], _, e => cases e; rfl
  | [y], _, e => cases e; rfl
section
variable {X : Cx} {pins : List (Addr × Obj)} {σ : L2.St} {H : Hp} {s : Shared} {ρ : Ro}
/-- the three rows side by side -/
theorem rows3 {K : Fg} : ∀ {ys : List D} {xs : List V} {us : List Value}, Rls ρ K H ys xs → Vals xs us → ∃ L : List (D × V × Value), L.map (·.1) = ys ∧ L.map (·.2.1) = xs ∧ L.map (·.2.2) = us ∧ ∀ p ∈ L, Rl ρ K H p.1 p.2.1 ∧ RelV p.2.1 p.2.2
  | _, _, _, .nil, r => by
    cases r
    exact ⟨[], rfl, rfl, rfl, fun p hp => by cases hp⟩
  | _, _, _, .cons h t, r => by
    cases r with
    | cons r0 r1 =>
      obtain ⟨L, e1, e2, e3, e4⟩ := rows3 t r1
      refine ⟨(_, _, _) :: L, by rw [List.map_cons, e1], by rw [List.map_cons, e2], by rw [List.map_cons, e3], fun p hp => ?_⟩
      rcases List.mem_cons.mp hp with z | z
      · rw [z]; exact ⟨h, r0⟩
      · exact e4 p z
theorem rows_back {K : Fg} : ∀ (L : List (D × V × Value)), (∀ p ∈ L, Rl ρ K H p.1 p.2.1 ∧ RelV p.2.1 p.2.2) → Rls ρ K H (L.map (·.1)) (L.map (·.2.1)) ∧ Vals (L.map (·.2.1)) (L.map (·.2.2))
  | [], _ => ⟨.nil, .nil⟩
  | p :: L, h => by
    obtain ⟨a, b⟩ := rows_back L fun q hq => h q (List.mem_cons_of_mem _ hq)
    obtain ⟨c, d⟩ := h p List.mem_cons_self
    exact ⟨.cons c a, .cons d b⟩
theorem cr_sorted : CallR X (.builtin "sorted") (rC X.K (bltD .sorted)) := by
  rintro pins s σ H vs us Q I rv ⟨ρ, h, ds, S, r, p⟩
  match ds, r, p with
  | [], _, p => exact False.elim p
  | x :: _ :: _, _, p => exact False.elim p
  | [d], r, p =>
    obtain ⟨v, rfl, r0⟩ := r.inv1
    simp only [bltD] at p
    cases hl : lstOf h d with
    | none => rw [hl] at p; exact p.elim
    | some ys =>
      rw [hl] at p
      simp only [Option.bind] at p
      cases hs : sortD ys with
      | none => rw [hs] at p; exact p.elim
      | some zs =>
        rw [hs] at p
        dsimp only at p
        obtain ⟨a, xs, rfl, q, w⟩ := lstOf_ok S r0 hl
        obtain ⟨u, rfl, ru⟩ := vals1 rv
        obtain rfl : u = Value.ref a := ru
        obtain ⟨its, rl, pl, hz⟩ := I.list q
        obtain ⟨L, l1, l2, l3, l4⟩ := rows3 w rl
        have nz : its.length ≤ sizeLine := by rw [← rl.length]; exact hz
        have ny : ys.length = its.length := by rw [w.length, rl.length]
        -- the end, from the rows as they come out
        have fin : ∀ M : List (D × V × Value), M.Perm L → M.map (·.1) = zs → ∀ (h' : Heap) (c : Addr) (n : Nat), (∀ b o, s.heap.get? b = some o → h'.get? b = some o) → s.heap.objs.size ≤ c → h'.get? c = some (seqObj "list" (M.map (·.2.2)).toArray n) → EP X pins σ Q (.ref c) { s with heap := h' } := by
          intro M pm e1 h' c n kp hc ho
          obtain ⟨b1, b2⟩ := rows_back M fun t ht => l4 t (pm.mem_iff.mp ht)
          have hn : H c = none := I.hok.fresh hc
          have ln : (M.map (·.2.1)).length ≤ sizeLine := by rw [List.length_map, pm.length_eq, ← List.length_map (f := (·.2.1)), l2]; exact hz
          rw [e1] at b1
          exact EP.fz ⟨.ref c, upd H c (.lst (M.map (·.2.1))), I.laid (t' := s.toks) kp hc ⟨ln, _, n, b2, ho⟩, rfl, post_lst p S b1 c hn⟩
        refine SrtO.sorted_ord (swo_key (kvS s.heap)) pl.isList nz (fun h2 h₁ c ha kk => ?_) fun out hs1 hs2 => ?_
        · obtain ⟨_, b, k, hf⟩ := sortD_form hs (by omega)
          refine forms_sortable (s := { s with heap := h₁ }) (b := b) (k := k) h2 (fun u hu => ?_) fun o e => ?_
          · rw [← l3] at hu
            obtain ⟨t, ht, rfl⟩ := List.mem_map.mp hu
            obtain ⟨g1, g2⟩ := l4 t ht
            obtain ⟨key, hk⟩ := hf t.1 (by rw [← l1]; exact List.mem_map.mpr ⟨t, ht, rfl⟩)
            obtain ⟨f1, f2⟩ := form_of I g1 g2 hk
            rw [f2]
            exact f1.keeps fun b o e _ => (kk b o e).2
          · have e' : some o = some (seqObj "list" its.toArray 0) := e.symm.trans ha
            cases e'
            intro z
            exact absurd (Value.type.inj z) (by decide)
        · obtain ⟨n, hn⟩ := sortedAll_at s.heap its out.toArray
          by_cases h2 : ys.length < 2
          · have ez := sortD_short hs h2
            have eo : out = its := short_perm hs2.perm (by omega)
            have g : L.map (·.2.2) = out := l3.trans eo.symm
            refine fin L (List.Perm.refl _) (l1.trans ez.symm) (sortedAll s.heap its out.toArray) (s.heap.objs.size + 1) n (fun b o e => sortedAll_old e) (Nat.le_succ _) ?_
            rw [g]
            exact hn
          · obtain ⟨ez, b, k, hf⟩ := sortD_form hs (by omega)
            have O3 : SrtO.Swo fun (x y : D × V × Value) => ltS (kvS s.heap x.2.2) (kvS s.heap y.2.2) := swo_key fun x : D × V × Value => kvS s.heap x.2.2
            obtain ⟨k1, k2⟩ := isort_ok (swo_key (kvS s.heap)) its
            have eo : out = isort (fun v u => ltS (kvS s.heap v) (kvS s.heap u)) its := SrtO.stb_uniq (swo_key (kvS s.heap)) hs1 k1 ⟨hs2.perm.trans k2.perm.symm, fun x => (hs2.cls x).trans (k2.cls x).symm⟩
            have key : ∀ t ∈ L, kvS s.heap t.2.2 = skey t.1 := fun t ht => by
              obtain ⟨g1, g2⟩ := l4 t ht
              obtain ⟨key, hk⟩ := hf t.1 (by rw [← l1]; exact List.mem_map.mpr ⟨t, ht, rfl⟩)
              rw [(form_of I g1 g2 hk).2]
              unfold skey
              rw [hk]
            have m1 := isort_map O3 (·.2.2) (fun v u => ltS (kvS s.heap v) (kvS s.heap u)) L fun x _ y _ => rfl
            have m2 := isort_map O3 (·.1) (fun x y => ltS (skey x) (skey y)) L fun x hx y hy => by rw [key x hx, key y hy]
            rw [l3] at m1
            rw [l1] at m2
            have g := m1.trans eo.symm
            refine fin _ (isort_ok O3 L).2.perm (m2.trans ez.symm) (sortedAll s.heap its out.toArray) (s.heap.objs.size + 1) n (fun b o e => sortedAll_old e) (Nat.le_succ _) ?_
            rw [g]
            exact hn
end
end VI

/-! VIg: expressions and tests, node by node. -/
namespace VI
open PySem PySem.Spec PyProof.Rows L2

section
variable {α β γ δ : Type} {Rv : Ro → Hp → α → β → Prop} {Rw : Ro → Hp → γ → δ → Prop} {K : Fg} {ρ : Ro} {H : Hp} {h : IH} {σI : Sig} {σ : L2.St}
theorem rd_mono {ev : Sig → IH → R α} {Q Q' : β → Hp → Prop} (r : rd Rv K ev σ H Q) (k : ∀ v H', Q v H' → Q' v H') : rd Rv K ev σ H Q' := by
  obtain ⟨ρ, h, σI, S, L, p⟩ := r
  refine ⟨ρ, h, σI, S, L, ?_⟩
  cases e : ev σI h with
  | bad => rw [e] at p; exact p
  | ok d h' => rw [e] at p; exact fun ρ' H' v kk s r => k _ _ (p ρ' H' v kk s r)
/-- one step of the interpreter, and what stands behind it -/
theorem stp {ev : Sig → IH → R α} {f : α → IH → R γ} {Q : δ → Hp → Prop} (S : SR ρ K h H) (L : SlR ρ K H σI σ) (p : Post Rw K ρ H Q ((ev σI h).bd f)) :
    rd Rv K ev σ H (fun v H1 => ∃ ρ1 x h1, Stp ρ ρ1 H H1 ∧ SR ρ1 K h1 H1 ∧ SlR ρ1 K H1 σI σ ∧ Rv ρ1 H1 x v ∧ Post Rw K ρ1 H1 Q (f x h1)) := by
  refine ⟨ρ, h, σI, S, L, ?_⟩
  have p1 := Post.bd (Rv := Rv) p
  cases e : ev σI h with
  | bad => rw [e] at p1; exact p1
  | ok d h' =>
    rw [e] at p1
    intro ρ' H' v k s r
    obtain ⟨ρ1, d1, h1, k1, s1, r1, p2⟩ := p1 ρ' H' v k s r
    exact ⟨ρ1, d1, h1, k1, s1, L.mono k1, r1, p2⟩
/-- the last step -/
theorem lst_ {ev : Sig → IH → R α} {Q : β → Hp → Prop} (S : SR ρ K h H) (L : SlR ρ K H σI σ) (p : Post Rv K ρ H Q (ev σI h)) : rd Rv K ev σ H Q := ⟨ρ, h, σI, S, L, p⟩
end
section
variable {K : Fg} {ρ : Ro} {H : Hp} {h : IH}
theorem post_T {Q : Bool → Hp → Prop} {c : Bool} (p : Post RvT K ρ H Q (.ok c h)) (S : SR ρ K h H) : Q c H := p ρ H c (.refl ρ H) S rfl
end

section
variable {X : Cx} {e a b c : Expr} {ea eb ec : Sig → IH → R D} {pos : Pos}
theorem s_cst {d : D} {v : V} (h : PE X e (tC v)) (r : ∀ ρ H, Rl ρ X.K H d v) : PE X e (tE X.K fun _ h => .ok d h) :=
  PE.imp h fun σ H Q ⟨ρ, h, σI, S, L, p⟩ => post_same p S (r ρ H)
theorem s_var {i : Nat} (h : PE X e (tVar i)) : PE X e (tE X.K fun σ h => match σ[i]? with | some (some d) => .ok d h | _ => .bad) := by
  refine PE.imp h fun σ H Q ⟨ρ, h, σI, S, L, p⟩ => ?_
  dsimp only at p
  cases hi : σI[i]? with
  | none => rw [hi] at p; exact p.elim
  | some o =>
    cases o with
    | none => rw [hi] at p; exact p.elim
    | some d =>
      rw [hi] at p
      obtain ⟨v, h1, h2⟩ := L.at_ i d hi
      exact ⟨v, h1, post_same p S h2⟩
theorem s_bin {o : Operator} (ha : PE X a (tE X.K ea)) (hb : PE X b (tE X.K eb)) : PE X (.BinOp a o b pos) (tE X.K fun σ h => (ea σ h).bd fun x h => (eb σ h).bd fun y h => binD o x y h) :=
  PE.imp (pe_op (op_bin o) ha hb) fun _ _ _ => two
theorem s_neg (ha : PE X a (tE X.K ea)) : PE X (.UnaryOp .USub a pos) (tE X.K fun σ h => (ea σ h).bd fun x h => match x with | .int i => .ok (.int (-i)) h | _ => .bad) := by
  refine PE.imp (pe_un un_neg ha) fun σ H Q ⟨ρ, h, σI, S, L, p⟩ => rd_mono (stp (Rv := RvE X.K) S L p) fun v H1 ⟨ρ1, x, h1, k, S1, L1, r, p1⟩ => ?_
  cases r with
  | int i => exact ⟨i, rfl, post_same p1 S1 (.int _)⟩
  | _ => exact p1.elim
theorem s_cmp {o : CmpOp} (hu : X.A.units + 65 < cLine) (ha : PE X a (tE X.K ea)) (hb : PE X b (tE X.K eb)) (hm : behindInMarks o b = false) :
    PE X (.Compare a [o] [b] pos) (tE X.K fun σ h => (ea σ h).bd fun x h => (eb σ h).bd fun y h => ansB (cmpD o x y h) h) :=
  PE.imp (pe_cmpR (op_cmp o hu) ha hb hm) fun _ _ _ => two
theorem ansB_ok {K : Fg} {ρ : Ro} {H : Hp} {h : IH} {Q : VK} {o : Option Bool} (p : Post (RvE K) K ρ H Q (ansB o h)) (S : SR ρ K h H) : ∃ c, o = some c ∧ Q (.bl c) H := by
  cases o with
  | none => exact p.elim
  | some c => exact ⟨c, rfl, post_same p S (.bl c)⟩
theorem ansT_ok {K : Fg} {ρ : Ro} {H : Hp} {h : IH} {Q : Bool → Hp → Prop} {o : Option Bool} (p : Post RvT K ρ H Q (ansT o h)) (S : SR ρ K h H) : ∃ c, o = some c ∧ Q c H := by
  cases o with
  | none => exact p.elim
  | some c => exact ⟨c, rfl, post_T p S⟩
theorem s_chn {o o' : CmpOp} (hu : X.A.units + 65 < cLine) (ha : PE X a (tE X.K ea)) (hb : PE X b (tE X.K eb)) (hc : PE X c (tE X.K ec)) (hm : lastMarks [o, o'] [b, c] = false) :
    PE X (.Compare a [o, o'] [b, c] pos) (tE X.K fun σ h => (ea σ h).bd fun x h => (eb σ h).bd fun y h => match cmpD o x y h with
      | some true => (ec σ h).bd fun z h => ansB (cmpD o' y z h) h
      | some false => .ok (.bl false) h
      | none => .bad) := by
  refine PE.imp (pe_chain (op_cmp o hu) (op_cmp o' hu) ha hb hc hm) fun σ H Q ⟨ρ, h, σI, S, L, p⟩ => ?_
  refine rd_mono (stp (Rv := RvE X.K) S L p) fun v1 H1 ⟨ρ1, x, h1, k1, S1, L1, r1, p1⟩ => ?_
  refine rd_mono (stp (Rv := RvE X.K) S1 L1 p1) fun v2 H2 ⟨ρ2, y, h2, k2, S2, L2, r2, p2⟩ => ?_
  cases hc : cmpD o x y h2 with
  | none => rw [hc] at p2; exact p2.elim
  | some cc =>
    rw [hc] at p2
    refine ⟨ρ2, h2, x, y, S2, r1.mono k2, r2, ?_⟩
    dsimp only
    rw [hc]
    intro ρ3 H3 v3 k3 S3 r3
    cases r3
    refine ⟨cc, rfl, ?_⟩
    cases cc with
    | false =>
      rw [if_neg Bool.false_ne_true]
      exact post_same (p2.shift k3) S3 (.bl false)
    | true =>
      rw [if_pos rfl]
      have p3 : Post (RvE X.K) X.K ρ3 H3 Q ((ec σI h2).bd fun z h => ansB (cmpD o' y z h) h) := p2.shift k3
      refine rd_mono (stp (Rv := RvE X.K) S3 (L2.mono k3) p3) fun v4 H4 ⟨ρ4, z, h4, k4, S4, L4, r4, p4⟩ => ?_
      exact ⟨ρ4, h4, y, z, S4, (r2.mono k3).mono k4, r4, p4⟩
theorem s_and {rest : List Expr} (ha : PE X a (tE X.K ea)) (hb : PE X (.BoolOp .And (b :: rest) pos) (tE X.K eb)) :
    PE X (.BoolOp .And (a :: b :: rest) pos) (tE X.K fun σ h => (ea σ h).bd fun x h => match truD h x with
      | some true => eb σ h
      | some false => .ok x h
      | none => .bad) := by
  refine PE.imp (pe_andT ha hb) fun σ H Q ⟨ρ, h, σI, S, L, p⟩ => ?_
  refine rd_mono (stp (Rv := RvE X.K) S L p) fun v1 H1 ⟨ρ1, x, h1, k1, S1, L1, r1, p1⟩ => ?_
  cases ht : truD h1 x with
  | none => rw [ht] at p1; exact p1.elim
  | some t =>
    rw [ht] at p1
    refine ⟨t, truD_ok S1 r1 ht, ?_⟩
    cases t with
    | true => rw [if_pos rfl]; exact lst_ S1 L1 p1
    | false => rw [if_neg Bool.false_ne_true]; exact post_same p1 S1 r1
theorem s_or {rest : List Expr} (ha : PE X a (tE X.K ea)) (hb : PE X (.BoolOp .Or (b :: rest) pos) (tE X.K eb)) :
    PE X (.BoolOp .Or (a :: b :: rest) pos) (tE X.K fun σ h => (ea σ h).bd fun x h => match truD h x with
      | some true => .ok x h
      | some false => eb σ h
      | none => .bad) := by
  refine PE.imp (pe_orT ha hb) fun σ H Q ⟨ρ, h, σI, S, L, p⟩ => ?_
  refine rd_mono (stp (Rv := RvE X.K) S L p) fun v1 H1 ⟨ρ1, x, h1, k1, S1, L1, r1, p1⟩ => ?_
  cases ht : truD h1 x with
  | none => rw [ht] at p1; exact p1.elim
  | some t =>
    rw [ht] at p1
    refine ⟨t, truD_ok S1 r1 ht, ?_⟩
    cases t with
    | true => rw [if_pos rfl]; exact post_same p1 S1 r1
    | false => rw [if_neg Bool.false_ne_true]; exact lst_ S1 L1 p1
theorem s_not (ha : PE X a (tE X.K ea)) : PE X (.UnaryOp .Not a pos) (tE X.K fun σ h => (ea σ h).bd fun x h => ansB ((truD h x).map (!·)) h) := by
  refine PE.imp (pe_notT ha) fun σ H Q ⟨ρ, h, σI, S, L, p⟩ => ?_
  refine rd_mono (stp (Rv := RvE X.K) S L p) fun v1 H1 ⟨ρ1, x, h1, k1, S1, L1, r1, p1⟩ => ?_
  obtain ⟨c, e, q⟩ := ansB_ok p1 S1
  cases ht : truD h1 x with
  | none => rw [ht] at e; cases e
  | some t => rw [ht] at e; cases e; exact ⟨t, truD_ok S1 r1 ht, q⟩
variable {et ta tb : Sig → IH → R Bool}
theorem s_ifx (hc : PT X c (tT X.K et)) (ha : PE X a (tE X.K ea)) (hb : PE X b (tE X.K eb)) :
    PE X (.IfExp c a b pos) (tE X.K fun σ h => (et σ h).bd fun d h => match d with | true => ea σ h | false => eb σ h) := by
  refine PE.imp (pe_ifExp hc ha hb) fun σ H Q ⟨ρ, h, σI, S, L, p⟩ => ?_
  refine rd_mono (stp (Rv := RvT) S L p) fun v1 H1 ⟨ρ1, x, h1, k1, S1, L1, r1, p1⟩ => ?_
  cases (show x = v1 from r1)
  cases v1 with
  | true => rw [if_pos rfl]; exact lst_ S1 L1 p1
  | false => rw [if_neg Bool.false_ne_true]; exact lst_ S1 L1 p1
theorem s_idx (hu : X.A.units + 1 < cLine) (ha : PE X a (tE X.K ea)) (hb : PE X b (tE X.K eb)) (hs : PlainIx b) :
    PE X (.Subscript a b pos) (tE X.K fun σ h => (ea σ h).bd fun x h => (eb σ h).bd fun y h => ansD (idxD x y h) h) :=
  PE.imp (pe_ix (ix_any hu) ha hb hs) fun _ _ _ => two
/-! ### argument lists, displays -/
variable {es : List Expr} {eas : Sig → IH → R (List D)}
theorem s_nil : PA X [] (tA X.K fun _ h => .ok [] h) :=
  PA.imp pa_nil fun σ H Q ⟨ρ, h, σI, S, L, p⟩ => p ρ H [] (.refl ρ H) S .nil
theorem cons_rd {K : Fg} {σ : L2.St} {H : Hp} {Q : List V → Hp → Prop} (z : tA K (fun σ h => (ea σ h).bd fun x h => (eas σ h).bd fun xs h => .ok (x :: xs) h) σ H Q) : tCons (tE K ea) (tA K eas) σ H Q := by
  obtain ⟨ρ, h, σI, S, L, p⟩ := z
  refine rd_mono (stp (Rv := RvE K) S L p) fun v1 H1 ⟨ρ1, x, h1, k1, S1, L1, r1, p1⟩ => ?_
  refine rd_mono (stp (Rv := RvA K) S1 L1 p1) fun v2 H2 ⟨ρ2, xs, h2, k2, S2, L2, r2, p2⟩ => ?_
  exact p2 ρ2 H2 _ (.refl ρ2 H2) S2 (.cons (r1.mono k2) r2)
theorem s_cons (ha : PE X e (tE X.K ea)) (hr : PA X es (tA X.K eas)) (hs : starEach (e :: es) X.env = (false, eval e X.env) :: starEach es X.env) :
    PA X (e :: es) (tA X.K fun σ h => (ea σ h).bd fun x h => (eas σ h).bd fun xs h => .ok (x :: xs) h) := by
  refine PA.imp (pa_cons ha hr hs) fun σ H Q ⟨ρ, h, σI, S, L, p⟩ => ?_
  refine rd_mono (stp (Rv := RvE X.K) S L p) fun v1 H1 ⟨ρ1, x, h1, k1, S1, L1, r1, p1⟩ => ?_
  refine rd_mono (stp (Rv := RvA X.K) S1 L1 p1) fun v2 H2 ⟨ρ2, xs, h2, k2, S2, L2, r2, p2⟩ => ?_
  exact p2 ρ2 H2 _ (.refl ρ2 H2) S2 (.cons (r1.mono k2) r2)
theorem s_tup {k : Nat} (h : PA X es (tA X.K eas)) : PE X (.Tuple es k pos) (tE X.K fun σ h => (eas σ h).bd fun xs h => mkT xs h) := by
  refine PE.imp (pe_tup h) fun σ H Q ⟨ρ, h, σI, S, L, p⟩ => ?_
  refine rd_mono (stp (Rv := RvA X.K) S L p) fun v1 H1 ⟨ρ1, x, h1, k1, S1, L1, r1, p1⟩ => ?_
  have hl := Rls.length r1
  unfold mkT at p1
  by_cases hz : x.length ≤ sizeLine
  · rw [if_pos hz] at p1; exact ⟨by omega, post_tup p1 S1 r1⟩
  · rw [if_neg hz] at p1; exact p1.elim
theorem s_lstF (h : PA X es (tA X.K eas)) : PE X (.List es pos) (tE X.K fun σ h => (eas σ h).bd fun xs h => mkL false xs h) := by
  refine PE.imp (PE.fz (pe_lst h)) fun σ H Q ⟨ρ, h, σI, S, L, p⟩ => ?_
  refine rd_mono (stp (Rv := RvA X.K) S L p) fun v1 H1 ⟨ρ1, x, h1, k1, S1, L1, r1, p1⟩ => ?_
  have hl := Rls.length r1
  unfold mkL at p1
  by_cases hz : x.length ≤ sizeLine
  · rw [if_pos hz] at p1; exact ⟨by omega, post_lst p1 S1 r1⟩
  · rw [if_neg hz] at p1; exact p1.elim
theorem s_lstM (h : PA X es (tA X.K eas)) : PE X (.List es pos) (tE X.K fun σ h => (eas σ h).bd fun xs h => mkL true xs h) := by
  refine PE.imp (pe_lst h) fun σ H Q ⟨ρ, h, σI, S, L, p⟩ => ?_
  refine rd_mono (stp (Rv := RvA X.K) S L p) fun v1 H1 ⟨ρ1, x, h1, k1, S1, L1, r1, p1⟩ => ?_
  have hl := Rls.length r1
  unfold mkL at p1
  by_cases hz : x.length ≤ sizeLine
  · rw [if_pos hz] at p1; exact ⟨by omega, post_ref p1 S1 r1⟩
  · rw [if_neg hz] at p1; exact p1.elim
theorem s_dict0 (tk : Bool) : PE X (.Dict [] [] pos) (tE X.K fun _ h => .ok (.ref h.n) (h.push (if tk then .dT [] [] else .dK [] []))) := by
  cases tk with
  | true =>
    refine PE.imp pe_dnewT fun σ H Q ⟨ρ, h, σI, S, L, p⟩ => fun a ha => ?_
    exact p (ext ρ h.n a) _ _ (S.stp_push ha) (S.push ha ⟨[], upd_same, rfl, .nil⟩) (.ref (by unfold ext; rw [if_pos rfl]))
  | false =>
    refine PE.imp pe_dnewK fun σ H Q ⟨ρ, h, σI, S, L, p⟩ => fun a ha => ?_
    exact p (ext ρ h.n a) _ _ (S.stp_push ha) (S.push ha ⟨[], upd_same, rfl, .nil⟩) (.ref (by unfold ext; rw [if_pos rfl]))
/-! ### tests -/
theorem t_tru (ha : PE X a (tE X.K ea)) (he : ∀ whole, isTrue a X.env whole = (do let v ← whole; standAt a.pos; holding [v] (truthy v))) : PT X a (tT X.K fun σ h => (ea σ h).bd fun x h => ansT (truD h x) h) := by
  refine PT.imp (pt_truth ha he) fun σ H Q ⟨ρ, h, σI, S, L, p⟩ => ?_
  refine rd_mono (stp (Rv := RvE X.K) S L p) fun v1 H1 ⟨ρ1, x, h1, k1, S1, L1, r1, p1⟩ => ?_
  obtain ⟨c, e, q⟩ := ansT_ok p1 S1
  exact ⟨c, truD_ok S1 r1 e, q⟩
theorem pw_of {op : BoolOp} {vs : List Expr} {t : TT} (h : PT X (.BoolOp op vs pos) t) : PW X (.BoolOp op vs pos) t := ⟨fun wh pins s σ H Q I q => h.run pins s σ H Q I q⟩
theorem t_conj {rest : List Expr} (ha : PT X a (tT X.K ta)) (hb : PT X (.BoolOp .And (b :: rest) pos) (tT X.K tb)) :
    PT X (.BoolOp .And (a :: b :: rest) pos) (tT X.K fun σ h => (ta σ h).bd fun c h => match c with | true => tb σ h | false => .ok false h) := by
  refine PT.imp (pw_and ha (pw_of hb)).pt fun σ H Q ⟨ρ, h, σI, S, L, p⟩ => ?_
  refine rd_mono (stp (Rv := RvT) S L p) fun v1 H1 ⟨ρ1, x, h1, k1, S1, L1, r1, p1⟩ => ?_
  cases (show x = v1 from r1)
  cases v1 with
  | true => rw [if_pos rfl]; exact lst_ S1 L1 p1
  | false => rw [if_neg Bool.false_ne_true]; exact post_T p1 S1
theorem t_disj {rest : List Expr} (ha : PT X a (tT X.K ta)) (hb : PT X (.BoolOp .Or (b :: rest) pos) (tT X.K tb)) :
    PT X (.BoolOp .Or (a :: b :: rest) pos) (tT X.K fun σ h => (ta σ h).bd fun c h => match c with | true => .ok true h | false => tb σ h) := by
  refine PT.imp (pw_or ha (pw_of hb)).pt fun σ H Q ⟨ρ, h, σI, S, L, p⟩ => ?_
  refine rd_mono (stp (Rv := RvT) S L p) fun v1 H1 ⟨ρ1, x, h1, k1, S1, L1, r1, p1⟩ => ?_
  cases (show x = v1 from r1)
  cases v1 with
  | true => rw [if_pos rfl]; exact post_T p1 S1
  | false => rw [if_neg Bool.false_ne_true]; exact lst_ S1 L1 p1
theorem t_one_and {t : TT} (ha : PT X a t) : PT X (.BoolOp .And [a] pos) t := (pw_and1 ha).pt
theorem t_one_or {t : TT} (ha : PT X a t) : PT X (.BoolOp .Or [a] pos) t := (pw_or1 ha).pt
theorem t_neg (ha : PT X a (tT X.K ta)) : PT X (.UnaryOp .Not a pos) (tT X.K fun σ h => (ta σ h).bd fun c h => .ok (!c) h) := by
  refine PT.imp (pt_not ha) fun σ H Q ⟨ρ, h, σI, S, L, p⟩ => ?_
  refine rd_mono (stp (Rv := RvT) S L p) fun v1 H1 ⟨ρ1, x, h1, k1, S1, L1, r1, p1⟩ => ?_
  cases (show x = v1 from r1)
  exact post_T p1 S1
theorem t_cmp {o : CmpOp} (hu : X.A.units + 65 < cLine) (ha : PE X a (tE X.K ea)) (hb : PE X b (tE X.K eb)) (hm : behindInMarks o b = false) :
    PT X (.Compare a [o] [b] pos) (tT X.K fun σ h => (ea σ h).bd fun x h => (eb σ h).bd fun y h => ansT (cmpD o x y h) h) := by
  refine PT.imp (pt_cmpR (op_cmp o hu) ha hb hm) fun σ H Q ⟨ρ, h, σI, S, L, p⟩ => ?_
  refine rd_mono (stp (Rv := RvE X.K) S L p) fun v1 H1 ⟨ρ1, x, h1, k1, S1, L1, r1, p1⟩ => ?_
  refine rd_mono (stp (Rv := RvE X.K) S1 L1 p1) fun v2 H2 ⟨ρ2, y, h2, k2, S2, L2, r2, p2⟩ => ?_
  refine ⟨ρ2, h2, x, y, S2, r1.mono k2, r2, ?_⟩
  dsimp only
  cases hc : cmpD o x y h2 with
  | none => rw [hc] at p2; exact p2
  | some cc =>
    rw [hc] at p2
    intro ρ3 H3 v3 k3 S3 r3
    cases r3
    exact ⟨cc, rfl, post_T (p2.shift k3) S3⟩
theorem t_chn {o o' : CmpOp} (hu : X.A.units + 65 < cLine) (ha : PE X a (tE X.K ea)) (hb : PE X b (tE X.K eb)) (hc : PE X c (tE X.K ec)) (hm : lastMarks [o, o'] [b, c] = false) :
    PT X (.Compare a [o, o'] [b, c] pos) (tT X.K fun σ h => (ea σ h).bd fun x h => (eb σ h).bd fun y h => match cmpD o x y h with
      | some true => (ec σ h).bd fun z h => ansT (cmpD o' y z h) h
      | some false => .ok false h
      | none => .bad) := by
  refine PT.imp (pt_chain (op_cmp o hu) (op_cmp o' hu) ha hb hc hm) fun σ H Q ⟨ρ, h, σI, S, L, p⟩ => ?_
  refine rd_mono (stp (Rv := RvE X.K) S L p) fun v1 H1 ⟨ρ1, x, h1, k1, S1, L1, r1, p1⟩ => ?_
  refine rd_mono (stp (Rv := RvE X.K) S1 L1 p1) fun v2 H2 ⟨ρ2, y, h2, k2, S2, L2, r2, p2⟩ => ?_
  cases hc : cmpD o x y h2 with
  | none => rw [hc] at p2; exact p2.elim
  | some cc =>
    rw [hc] at p2
    refine ⟨ρ2, h2, x, y, S2, r1.mono k2, r2, ?_⟩
    dsimp only
    rw [hc]
    intro ρ3 H3 v3 k3 S3 r3
    cases r3
    refine ⟨cc, rfl, ?_⟩
    cases cc with
    | false =>
      rw [if_neg Bool.false_ne_true]
      exact ⟨false, rfl, post_T (p2.shift k3) S3⟩
    | true =>
      rw [if_pos rfl]
      have p3 : Post RvT X.K ρ3 H3 Q ((ec σI h2).bd fun z h => ansT (cmpD o' y z h) h) := p2.shift k3
      refine rd_mono (stp (Rv := RvE X.K) S3 (L2.mono k3) p3) fun v4 H4 ⟨ρ4, z, h4, k4, S4, L4, r4, p4⟩ => ?_
      refine ⟨ρ4, h4, y, z, S4, (r2.mono k3).mono k4, r4, ?_⟩
      dsimp only
      cases hc2 : cmpD o' y z h4 with
      | none => rw [hc2] at p4; exact p4
      | some dd =>
        rw [hc2] at p4
        intro ρ5 H5 v5 k5 S5 r5
        cases r5
        exact ⟨dd, rfl, post_T (p4.shift k5) S5⟩
end
end VI

/-! VIx: set(xs), the items added one by one, whatever they are. -/
namespace VI
open PySem PySem.Spec PyProof.Rows L2

section
variable {P : Program} {w : World} {A : Around} {E : Value → Shared → Prop} {s : Shared}
/-- one step of filling: what stands behind it -/
def AddTo (P : Program) (w : World) (A : Around) (S : Addr) (v : Value) (J J' : Heap → Prop) : Prop :=
  ∀ (s : Shared) (Q : Bool → Shared → Prop) (E : Value → Shared → Prop), J s.heap → (∀ b h' tk, J' h' → s.toks ≤ tk → Heap.SameBut S s.heap h' → Q b { s with heap := h', toks := tk }) → wpAny (model P w) A (setAdd S v) Q E s
theorem fill_loop {I : Addr} {fp wr : List Addr} {G : Array GenState → Array GenState → Prop} {n : Nat} {Pv : Nat → Value → Prop} {St : Nat → Shared → Prop} {R : Result → Shared → Prop} (W : WalksS P w A.in1 I fp wr G n Pv St) (S : Addr) (hSf : S ∉ fp) (J : Nat → Heap → Prop)
    (keep : ∀ i h h', J i h → (∀ b o, b ∉ wr → h.get? b = some o → h'.get? b = some o) → J i h') (add : ∀ i v, i < n → Pv i v → AddTo P w A.in1 S v (J i) (J (i + 1))) :
    ∀ (k i : Nat) (s : Shared), k + i = n → St i s → J i s.heap → (∀ s', Moved (S :: wr) G s s' → J n s'.heap → R (.ok (.ret .none)) s') → codeAny (model P w) A (.builtin "set.update.loop" ⟨[.ref S, .ref I], []⟩) R s
  | 0, i, s, hi, st, j, fin => by
    obtain rfl : i = n := by omega
    refine codeAny_builtin F.entry_set_update_loop ?_
    rw [Around.under_plainId F.plain_set_update_loop _]
    refine wpAny_bind (W.done s _ _ st fun s' mv => wpAny_pure (fin s' (mv.mono fun b hb => List.mem_cons_of_mem _ hb) (keep _ _ _ j fun b o hb e => mv.heap b o hb e)))
  | k + 1, i, s, hi, st, j, fin => by
    refine codeAny_builtin F.entry_set_update_loop ?_
    rw [Around.under_plainId F.plain_set_update_loop _]
    refine wpAny_bind (W.item i s _ _ (by omega) st fun v s' pv st' mv => ?_)
    refine wpAny_bind (wpAny_holding (add i v (by omega) pv s' _ _ (keep _ _ _ j fun b o hb e => mv.heap b o hb e) fun b h' tk j' le sb => ?_))
    refine wpAny_pure ⟨plainId_quiet F.plain_set_update_loop _, fill_loop W S hSf J keep add k (i + 1) _ (by omega) (W.frame _ s' _ _ st' le fun b hb o e => ?_) j' fun s2 mv2 j2 => fin s2 ?_ j2⟩
    · rw [sb.2 b (fun z => hSf (by rw [← z]; exact hb))]
      exact e
    · refine Moved.trans W.gtrans ((mv.mono fun b hb => List.mem_cons_of_mem _ hb).then_heap le fun b o hb e => ?_) mv2
      rw [sb.2 b (fun z => hb (by rw [z]; exact List.mem_cons_self))]
      exact e
abbrev newSet (w : World) : Obj := { cls := .type "set", dict := none, data := .set #[] 0 (.fresh 0 0 (!w.params.followText "set-order")) }
/-- the items of a list or of a tuple -/
def SqAt (h : Heap) (l : Addr) (items : Array Value) : Prop := h.IsList l items ∨ h.IsTuple l items
set_option maxHeartbeats 3200000 in
theorem set_of {l : Addr} {items : Array Value} {Q : Value → Shared → Prop} (hh : A.handled = none) (hl : SqAt s.heap l items) (J : Nat → Heap → Prop)
    (first : ∀ h, (∀ b o, s.heap.get? b = some o → h.get? b = some o) → h.get? s.heap.objs.size = some (newSet w) → J 0 h)
    (keep : ∀ i h h', J i h → (∀ b o, b ≤ s.heap.objs.size → h.get? b = some o → h'.get? b = some o) → J i h')
    (add : ∀ i v, items[i]? = some v → AddTo P w A.in1.in1.in1 s.heap.objs.size v (J i) (J (i + 1)))
    (fin : ∀ (h' : Heap) (tk : Nat), J items.size h' → (∀ b o, s.heap.get? b = some o → h'.get? b = some o) → Q (.ref s.heap.objs.size) { s with heap := h', toks := tk }) :
    wpAny (model P w) A (call (.type "set") [.ref l]) Q E s := by
  obtain ⟨c, tl, hmro⟩ := F.called_set.mro
  have hmade := F.called_set.made
  have hsub := F.called_set.sub
  refine wpAny_call (codeAny_of_tree (wpAny_pure ⟨Code.quiet_builtin _ (by decide +kernel), codeAny_builtin F.entry_type_call ?_⟩))
  rw [Around.under_plain (weight_type_call_type "set" [.ref l] []) rfl]
  have h1 := F.called_set.notType
  have h2 := F.called_set.canCreate
  have hct := F.typeCall_set_1 (.ref l)
  repeat (any_goals (first | assumption | wp_step))
  refine codeAny_mono (code_set_led1 (.ref l) (E := E) (Q₁ := fun ob s₁ => ob = .ref s.heap.objs.size ∧ s₁ = { s with heap := s.heap.push (newSet w) }) ⟨rfl, rfl⟩) fun r s₁ hr => ?_
  cases r with
  | error e => exact hr
  | ok fl =>
    cases fl with
    | ret ob =>
      obtain ⟨rfl, rfl⟩ := hr
      have at0 : (s.heap.push (newSet w)).get? s.heap.objs.size = some (newSet w) := Heap.get?_push_size _ rfl
      have hT : Shared.TypeIs { s with heap := s.heap.push (newSet w) } (.ref s.heap.objs.size) "set" := ⟨_, at0, rfl⟩
      have hli := F.called_set.init.lookup
      have hbi := F.called_set.init.bind (.ref s.heap.objs.size)
      repeat (any_goals (first | assumption | wp_step))
      refine codeAny_mono (codeAny_call_builtin (R := wants (fun r s₂ => r = .none ∧ ∃ h' tk, s₂ = { s with heap := h', toks := tk } ∧ J items.size h' ∧ ∀ b o, s.heap.get? b = some o → h'.get? b = some o) E) F.called_set.init.plain F.entry_set_init (check_set_init_1 hT ?_)) fun r₂ s₂ hr₂ => ?_
      · have kp1 : ∀ b o, s.heap.get? b = some o → (s.heap.push (newSet w)).get? b = some o := fun b o e => Heap.get?_push_of_some _ e
        have sz : (s.heap.push (newSet w)).objs.size = s.heap.objs.size + 1 := Heap.size_push ..
        have hh3 : A.in1.in1.in1.handled = none := by simp [hh]
        -- behind the iterator's making, one way for both kinds
        have go : ∀ (it : Obj) {St : Nat → Shared → Prop} {G : Array GenState → Array GenState → Prop}, WalksS P w A.in1.in1.in1 (s.heap.push (newSet w)).objs.size [(s.heap.push (newSet w)).objs.size, l] [(s.heap.push (newSet w)).objs.size] G items.size (fun i v => items[i]? = some v) St → (∀ a b, G a b → b = a) →
            l < s.heap.objs.size → St 0 { s with heap := (s.heap.push (newSet w)).push it } →
            codeAny (model P w) A.in1.in1 (.builtin "set.update.loop" ⟨[.ref s.heap.objs.size, .ref (s.heap.push (newSet w)).objs.size], []⟩)
              (fun r s' => r = .ok (.ret .none) ∧ ∃ h' tk, s' = { s with heap := h', toks := tk } ∧ J items.size h' ∧ ∀ b o, s.heap.get? b = some o → h'.get? b = some o) { s with heap := (s.heap.push (newSet w)).push it } := by
          intro it St G W gg hlt st0
          have nm : s.heap.objs.size ∉ [(s.heap.push (newSet w)).objs.size, l] := by
            rw [sz]
            simp only [List.mem_cons, List.mem_singleton, List.not_mem_nil, or_false, not_or]
            exact ⟨Nat.ne_of_lt (Nat.lt_succ_self _), fun z => absurd hlt (by rw [← z]; exact Nat.lt_irrefl _)⟩
          refine fill_loop W s.heap.objs.size nm J (fun i h h' j k => keep i h h' j fun b o hb e => k b o ?_ e) (fun i v _ pv => add i v pv) items.size 0 _ (by omega) st0 (first _ (fun b o e => Heap.get?_push_of_some _ (kp1 b o e)) (Heap.get?_push_of_some _ at0)) fun s' mv j => ?_
          · intro z
            rw [List.mem_singleton.mp z, sz] at hb
            omega
          · obtain ⟨h', g', d', tk', os'⟩ := s'
            have eg : g' = s.gens := gg _ _ mv.gens
            have ed : d' = s.drawn := mv.drawn
            have eo : os' = s.os := mv.os
            subst eg ed eo
            refine ⟨rfl, h', tk', rfl, j, fun b o e => mv.heap b o (fun z => ?_) (Heap.get?_push_of_some _ (kp1 b o e))⟩
            have lt := Heap.lt_size e
            simp only [List.mem_cons, List.mem_singleton, List.not_mem_nil, or_false] at z
            rw [sz] at z
            rcases z with z | z
            · exact absurd lt (by rw [z]; exact Nat.lt_irrefl _)
            · exact absurd lt (by rw [z]; exact Nat.not_succ_lt_self)
        have neI : ∀ {x : Addr}, x < s.heap.objs.size → x ≠ (s.heap.push (newSet w)).objs.size := fun hx z => by
          rw [z, sz] at hx
          exact Nat.not_succ_lt_self hx
        rcases hl with ⟨ol, hol, hcl, nl, hdl⟩ | ⟨ol, hol, hcl, nl, hdl⟩
        · obtain ⟨oc, od, odt, osl⟩ := ol
          cases (show oc = .type "list" from hcl)
          cases (show odt = .seq items nl from hdl)
          have lt := Heap.lt_size hol
          have hol2 := kp1 _ _ hol
          have hs1 := F.sub_list_set
          have hs2 := F.sub_list_frozenset
          have hnd : (Value.type "list" == Value.type "dict") = false := by decide
          have hl1 : (s.heap.push (newSet w)).IsList l items := ⟨_, hol2, rfl, nl, rfl⟩
          unfold Builtin.«set.__init__» noKeywords Builtin.Frozenset.updateFrom
          generalize hPI : pyIter = PI
          wp_walk
          subst hPI
          refine wpAny_pyIter_list hl1 (wpAny_bind (wpAny_runValue (codeAny_mono (go _ (Walks.list hh3 _ l (neI lt) items).toS (fun a b z => z) lt ⟨⟨_, Heap.get?_push_size _ rfl, rfl, rfl⟩, hl1.push _⟩) fun r s' z => ?_)))
          obtain ⟨rfl, h', tk, rfl, j, kp⟩ := z
          exact wpAny_pure (wpAny_pure ⟨rfl, h', tk, rfl, j, kp⟩)
        · obtain ⟨oc, od, odt, osl⟩ := ol
          cases (show oc = .type "tuple" from hcl)
          cases (show odt = .seq items nl from hdl)
          have lt := Heap.lt_size hol
          have hol2 := kp1 _ _ hol
          have hs1 := F.sub_tuple_set
          have hs2 := F.sub_tuple_frozenset
          have hnd : (Value.type "tuple" == Value.type "dict") = false := by decide
          have hl1 : (s.heap.push (newSet w)).IsTuple l items := ⟨_, hol2, rfl, nl, rfl⟩
          unfold Builtin.«set.__init__» noKeywords Builtin.Frozenset.updateFrom
          generalize hPI : pyIter = PI
          wp_walk
          subst hPI
          refine wpAny_pyIter_tuple hl1 (wpAny_bind (wpAny_runValue (codeAny_mono (go _ (Walks.tuple hh3 _ l (neI lt) items).toS (fun a b z => z) lt ⟨⟨_, Heap.get?_push_size _ rfl, rfl, rfl⟩, hl1.push _⟩) fun r s' z => ?_)))
          obtain ⟨rfl, h', tk, rfl, j, kp⟩ := z
          exact wpAny_pure (wpAny_pure ⟨rfl, h', tk, rfl, j, kp⟩)
      · cases r₂ with
        | error e => exact hr₂
        | ok fl₂ =>
          cases fl₂ with
          | ret r =>
            obtain ⟨rfl, h', tk, rfl, j, kp⟩ := hr₂
            repeat (any_goals (first | assumption | wp_step))
            exact fin _ _ j kp
          | _ => exact hr₂.elim
    | _ => exact hr.elim
end
end VI

/-! VIy: len(set(xs)), ints and texts. -/
namespace VI
open PySem PySem.Spec PyProof.Rows L2

def hasK {κ : Type} [DecidableEq κ] (x : κ) (l : List κ) : Bool := decide (x ∈ l)
theorem ndist_snoc {κ : Type} [DecidableEq κ] (x : κ) : ∀ l : List κ, ndist (l ++ [x]) = if x ∈ l then ndist l else ndist l + 1
  | [] => by simp [ndist]
  | y :: l => by
    show (if y ∈ l ++ [x] then ndist (l ++ [x]) else ndist (l ++ [x]) + 1) = if x ∈ y :: l then (if y ∈ l then ndist l else ndist l + 1) else (if y ∈ l then ndist l else ndist l + 1) + 1
    rw [ndist_snoc x l]
    by_cases h1 : y ∈ l
    · rw [if_pos (List.mem_append_left _ h1), if_pos h1]
      by_cases h2 : x ∈ l
      · rw [if_pos h2, if_pos (List.mem_cons_of_mem _ h2)]
      · rw [if_neg h2]
        by_cases h3 : x = y
        · subst h3; exact absurd h1 h2
        · rw [if_neg (by simp [h3, h2])]
    · rw [if_neg h1]
      by_cases h3 : x = y
      · subst h3
        rw [if_pos (by simp), if_neg h1, if_pos (by simp)]
      · rw [if_neg (by simp [h1]; exact fun e => h3 e.symm)]
        by_cases h2 : x ∈ l
        · rw [if_pos h2, if_pos (List.mem_cons_of_mem _ h2)]
        · rw [if_neg h2, if_neg (by simp [h3, h2])]
theorem hasK_snoc {κ : Type} [DecidableEq κ] (x k : κ) (l : List κ) : (hasK x l || decide (x = k)) = hasK x (l ++ [k]) := by
  unfold hasK
  by_cases h1 : x ∈ l
  · simp [h1]
  · by_cases h2 : x = k
    · simp [h2]
    · simp [h1, h2]
theorem ite_hasK {κ : Type} [DecidableEq κ] (k : κ) (l : List κ) (a b : Nat) : (if hasK k l = true then a else b) = if k ∈ l then a else b := by
  unfold hasK
  by_cases h : k ∈ l
  · simp [h]
  · simp [h]
theorem ndist_le {κ : Type} [DecidableEq κ] : ∀ l : List κ, ndist l ≤ l.length
  | [] => Nat.le_refl _
  | x :: r => by
    have := ndist_le r
    unfold ndist
    split <;> simp <;> omega
section
variable {P : Program} {w : World} {A : Around}
/-- the first i keys are in the set -/
def JK (P : Program) (w : World) (S : Addr) (ks : List Key) (i : Nat) (h : Heap) : Prop := h.SetOf (mixKind P w) S (fun k => hasK k (ks.take i)) (ndist (ks.take i))
theorem scan_key {k : Key} {u : Value} (r : RelV (kV k) u) : u.scannable = true := by
  cases k with
  | inl n => obtain ⟨t, rfl⟩ := (show ∃ t, u = Value.int n t from r); rfl
  | inr z => obtain ⟨t, rfl⟩ := (show ∃ t, u = Value.str z t from r); rfl
theorem add_key {S : Addr} {ks : List Key} {i : Nat} {k : Key} {u : Value} (few : ks.length < 60) (hk : ks[i]? = some k) (r : RelV (kV k) u) : AddTo P w A S u (JK P w S ks i) (JK P w S ks (i + 1)) := by
  intro s Q E j q
  unfold setAdd
  have hn : ndist (ks.take i) ≤ 60 := by
    have a := ndist_le (ks.take i)
    have b : (ks.take i).length ≤ ks.length := by rw [List.length_take]; omega
    omega
  refine wpAny_holding (wpAny_bind ((mixKind P w).pyHash (kV_is r) (wpAny_setAddHashed_of (knd := mixKind P w) (s := { s with toks := s.toks + 1 }) (kV_is r) (scan_key r) j (by unfold scanBound; omega) fun h' sb S2 => q _ h' (s.toks + 1) ?_ (Nat.le_succ _) sb)))
  have et : ks.take (i + 1) = ks.take i ++ [k] := by rw [List.take_succ, hk]; rfl
  have e1 : (fun x => hasK x (ks.take i) || decide (x = k)) = fun x => hasK x (ks.take (i + 1)) := funext fun x => by
    rw [et]
    exact hasK_snoc x k _
  have e2 : (if hasK k (ks.take i) = true then ndist (ks.take i) else ndist (ks.take i) + 1) = ndist (ks.take (i + 1)) := by
    rw [et, ndist_snoc]
    exact ite_hasK k _ _ _
  unfold JK
  rw [← e1, ← e2]
  exact S2
end
end VI

/-! VIz: sets of tuples of ints and texts. -/
namespace VI
open PySem PySem.Spec PyProof.Rows L2

section
variable {P : Program} {w : World} {A : Around} {E : Value → Shared → Prop} {s : Shared}
abbrev th (P : Program) (w : World) (k : List Key) : Int := tupleKeyHash (mixKind P w) k
abbrev Tp (P : Program) (w : World) (h : Heap) (k : List Key) (x : Addr) : Prop := IsTupleKey (mixKind P w) h k x
/-- an item of such a tuple is an int or a text -/
def Plain1 (v : Value) : Prop := (∃ n t, v = .int n t) ∨ ∃ x t, v = .str x t
theorem plain_is {k : Key} {v : Value} (h : (mixKind P w).is k v = true) : Plain1 v := by
  cases v <;> first | exact .inl ⟨_, _, rfl⟩ | exact .inr ⟨_, _, rfl⟩ | (cases k <;> exact absurd h (by decide)) | (cases k <;> cases h)
theorem plain_items {ks : List Key} {vs : List Value} (h : ItemsAre (mixKind P w) ks vs) : ∀ v ∈ vs, Plain1 v := by
  induction h with
  | nil => intro v hv; cases hv
  | cons h1 _ ih =>
    intro v hv
    rcases List.mem_cons.mp hv with e | hv
    · rw [e]; exact plain_is h1
    · exact ih v hv
theorem hbv_str (n : Nat) (x : Str) (t : Tok) : hashByValue n (.str x t) = pure false := by
  cases n <;> rfl
theorem noClass {v : Value} (h : Plain1 v) (n : Nat) : ofAClassStatement n v = pure false := by
  rcases h with ⟨i, t, rfl⟩ | ⟨x, t, rfl⟩ <;> cases n <;> rfl
theorem byVal {v : Value} (h : Plain1 v) (n : Nat) : ∃ b, hashByValue n v = pure b := by
  rcases h with ⟨i, t, rfl⟩ | ⟨x, t, rfl⟩ <;> cases n <;> exact ⟨_, by first | exact hbv_str _ _ _ | rfl⟩
/-- small questions asked of such a tuple -/
theorem noClassT {k : List Key} {b : Addr} {Q : Bool → Shared → Prop} (hk : Tp P w s.heap k b) (q : Q false s) : wpAny (model P w) A (ofAClassStatement 8 (.ref b)) Q E s := by
  have hT := hk.typeIs
  obtain ⟨o, items, n, ho, _, hd, hi⟩ := hk
  have pl := plain_items hi
  unfold ofAClassStatement
  refine wpAny_bind (wpAny_typeOf hT ?_)
  dsimp only
  rw [if_pos (by decide)]
  refine wpAny_bind (wpAny_pure ?_)
  rw [if_neg (by decide)]
  try refine wpAny_bind (wpAny_pure ?_)
  refine wpAny_bind (wpAny_seqItems ho hd ?_)
  dsimp only
  refine wpAny_bind ?_
  rw [← Array.forIn_toList]
  refine wpAny_forIn_list _ (fun rest r s' => r.1 = none ∧ s' = s ∧ ∀ v ∈ rest, Plain1 v) _ ?_ ?_ _ _ ⟨rfl, rfl, pl⟩
  · rintro v rest r s' ⟨hr, rfl, all⟩
    rw [noClass (all v List.mem_cons_self)]
    refine wpAny_bind (wpAny_pure ?_)
    rw [if_neg Bool.false_ne_true]
    exact wpAny_pure ⟨rfl, rfl, fun u hu => all u (List.mem_cons_of_mem _ hu)⟩
  · rintro ⟨r1, r2⟩ s' ⟨hr, rfl, _⟩
    dsimp only at hr
    subst hr
    exact wpAny_pure q
theorem byValT {k : List Key} {b : Addr} {Q : Bool → Shared → Prop} (hk : Tp P w s.heap k b) (q : ∀ r, Q r s) : wpAny (model P w) A (hashByValue 8 (.ref b)) Q E s := by
  have hT := hk.typeIs
  obtain ⟨o, items, n, ho, _, hd, hi⟩ := hk
  have pl := plain_items hi
  unfold hashByValue
  refine wpAny_bind (wpAny_specialOf hT F.slot_tuple_hash.lookup ?_)
  dsimp only
  refine wpAny_bind (wpAny_seqItems ho hd ?_)
  refine wpAny_bind ?_
  show wpAny _ _ (forIn items _ _) _ _ s
  rw [← Array.forIn_toList]
  refine wpAny_forIn_list _ (fun rest r s' => s' = s ∧ ∀ v ∈ rest, Plain1 v) _ ?_ ?_ _ _ ⟨rfl, pl⟩
  · rintro v rest r s' ⟨rfl, all⟩
    obtain ⟨c, e⟩ := byVal (all v List.mem_cons_self) 7
    rw [e]
    refine wpAny_bind (wpAny_pure ?_)
    cases c with
    | true =>
      rw [if_neg (by decide)]
      exact wpAny_pure ⟨rfl, fun u hu => all u (List.mem_cons_of_mem _ hu)⟩
    | false =>
      rw [if_pos (by decide)]
      exact wpAny_pure (wpAny_pure (q _))
  · rintro ⟨r1, r2⟩ s' ⟨rfl, _⟩
    cases r1 with
    | none => exact wpAny_pure (q _)
    | some c => exact wpAny_pure (q _)
/-- the search among such tuples shows nothing -/
theorem unseen {k : List Key} {b : Addr} {Q : Bool → Shared → Prop} (hk : Tp P w s.heap k b) {ys : List Value} (hy : ∀ y ∈ ys, ∃ k' c, y = Value.ref c ∧ Tp P w s.heap k' c) (q : Q false s) : wpAny (model P w) A (searchCouldBeSeen (.ref b) ys) Q E s := by
  unfold searchCouldBeSeen
  refine wpAny_bind (wpAny_forIn_list _ (fun rest r s' => r.1 = none ∧ s' = s ∧ ∀ y ∈ rest, ∃ k' c, y = Value.ref c ∧ Tp P w s.heap k' c) _ ?_ ?_ _ _ ⟨rfl, rfl, hy⟩)
  · rintro v rest r s' ⟨hr, rfl, all⟩
    obtain ⟨k', c, rfl, hc⟩ := all v List.mem_cons_self
    have next : ∀ y ∈ rest, ∃ k' c, y = Value.ref c ∧ Tp P w s'.heap k' c := fun u hu => all u (List.mem_cons_of_mem _ hu)
    dsimp only
    by_cases hv : (b == c || (carriedByValue (.ref b) && carriedByValue (.ref c))) = true
    · exact wp_if_pos hv (wpAny_pure ⟨rfl, rfl, next⟩)
    · refine wp_if_neg hv (wpAny_bind (wpAny_eqIsQuiet_tuple hk ?_))
      rw [if_neg (by decide)]
      refine wpAny_bind (wpAny_eqIsQuiet_tuple hc ?_)
      rw [if_neg (by decide)]
      refine wpAny_bind (noClassT hk ?_)
      rw [if_neg (by decide)]
      refine wpAny_bind (noClassT hc ?_)
      rw [if_neg (by decide)]
      exact wpAny_pure ⟨rfl, rfl, next⟩
  · rintro ⟨r1, r2⟩ s' ⟨hr, rfl, _⟩
    dsimp only at hr
    subst hr
    exact wpAny_pure q
end
end VI

/-! VIzb: the table of a set of tuples: seeking. -/
namespace VI
open PySem PySem.Spec PyProof.Rows L2

section
variable {P : Program} {w : World} {A : Around} {E : Value → Shared → Prop} {s : Shared}
abbrev Ent := List Key × Addr
def row (P : Program) (w : World) (p : Ent) : Int × Value := (th P w p.1, Value.ref p.2)
structure TpSet (P : Program) (w : World) (h : Heap) (a : Addr) (L : List Ent) (es : Array (Int × Value)) (ep : Nat) (t : SetTable) : Prop where
  ob : ∃ o, h.get? a = some o ∧ o.ExactSet ∧ o.data = .set es ep t
  rows : es.toList = L.map (row P w)
  tab : TabOk t (L.map fun p => th P w p.1)
  nd : (L.map Prod.fst).Nodup
  tup : ∀ p ∈ L, Tp P w h p.1 p.2
  room : L.length * 5 < t.mask * 3
  few : L.length < 64
variable {a : Addr} {L : List Ent} {es : Array (Int × Value)} {ep : Nat} {t : SetTable}
theorem rows_size (h : es.toList = L.map (row P w)) : es.size = L.length := by
  rw [← Array.length_toList, h, List.length_map]
theorem rows_at (h : es.toList = L.map (row P w)) {i : Nat} {p : Ent} (e : L[i]? = some p) : es[i]? = some (th P w p.1, Value.ref p.2) := by
  rw [← Array.getElem?_toList, h, List.getElem?_map, e]
  rfl
theorem fits_of {hs : List Int} (T : TabOk t hs) (e1 : hs.length = es.size) (e2 : es.size ≤ t.mask) : t.fits es.size = true := by
  have h1 := T.sz
  unfold SetTable.fits SetTable.fill
  rw [T.dm, Bool.and_eq_true, beq_iff_eq, decide_eq_true_eq]
  show t.place.size = es.size ∧ t.place.size + 0 ≤ t.mask
  omega
theorem TpSet.fits (R : TpSet P w s.heap a L es ep t) : t.fits es.size = true := by
  have h2 := rows_size R.rows
  have h3 := R.room
  exact fits_of R.tab (by rw [List.length_map, h2]) (by omega)
theorem TpSet.odd (R : TpSet P w s.heap a L es ep t) : ¬ t.gaveWay = true := by
  unfold SetTable.gaveWay
  rw [mask_odd R.tab.mok]
  decide
theorem nodummy (m : Nat) : ∀ (n : Nat) (p : SetTable.Probe), p.dummy = none → (nth m p n).dummy = none
  | 0, p, h => h
  | n + 1, p, h => nodummy m n (adv m p) (by unfold adv; split <;> exact h)
/-- the road of a key, from its c-th step -/
abbrev road (t : SetTable) (h : Int) (c : Nat) : SetTable.Probe := nth t.mask (runAt t.mask (SetTable.bits h % (t.mask + 1)) (SetTable.bits h)) c
theorem seek (R : TpSet P w s.heap a L es ep t) {x : Addr} {k : List Key} (hx : Tp P w s.heap k x) (hu : A.units < cLine) {K : Nat} (hKf : K < 10 * SetTable.turns t.mask) (hK : way t.mask (th P w k) K ∉ t.place.toList)
    (hKb : ∀ c, c < K → way t.mask (th P w k) c ∈ t.place.toList) {Q : SetFound → Shared → Prop} (yes : k ∈ L.map Prod.fst → Q (.there none) s) (no : k ∉ L.map Prod.fst → Q (.free (way t.mask (th P w k) K) false) s) :
    ∀ (f c : Nat) (stand : Option SetTable.Probe), stand.getD (t.probeStart (th P w k)) = road t (th P w k) c → c ≤ K → K - c < f → (∀ (i : Nat) p, L[i]? = some p → p.1 = k → ∃ c', c ≤ c' ∧ c' < K ∧ t.place.toList[i]? = some (way t.mask (th P w k) c')) →
      wpAny (model P w) A (setSearchFrom a (.ref x) (th P w k) true f stand) Q E s
  | 0, c, stand, _, _, hf, _ => absurd hf (Nat.not_lt_zero _)
  | f + 1, c, stand, hst, hc, hf, here => by
    obtain ⟨o, ho, hex, hd⟩ := R.ob
    have at_ : ∀ q, nth t.mask (road t (th P w k) c) q = road t (th P w k) (c + q) := fun q => (nth_add t.mask c _ q).symm
    have jat : ∀ q, (nth t.mask (road t (th P w k) c) q).j = way t.mask (th P w k) (c + q) := fun q => by rw [at_]
    have hcK : c + (K - c) = K := by omega
    have spec := go_spec t R.tab.ris R.tab.dm (fun i => (es[i]?.map (·.1)).getD 0) (th P w k) (10 * SetTable.turns t.mask) (K - c) (road t (th P w k) c) (nodummy _ _ _ rfl) (by omega) (fun q hq => by rw [jat]; exact hKb _ (by omega)) (by rw [jat, hcK]; exact hK)
    have hashAt : ∀ (i : Nat) p, L[i]? = some p → (es[i]?.map (·.1)).getD 0 = th P w p.1 := fun i p hp => by
      rw [rows_at R.rows hp]
      rfl
    rw [setSearchFrom_succ]
    refine wpAny_bind (wpAny_setState_of ho hd R.fits ?_)
    dsimp only
    refine wp_if_neg R.odd ?_
    try refine wpAny_bind (wpAny_pure ?_)
    rcases spec with ⟨q, i, hq, hi, hh, none_, pr⟩ | ⟨none_, pr⟩
    · have pr' : t.probe (fun i => (es[i]?.map (·.1)).getD 0) (th P w k) (stand.getD (t.probeStart (th P w k))) = some (.candidate (way t.mask (th P w k) (c + q)) i (road t (th P w k) (c + (q + 1)))) := by
        rw [hst, ← jat, ← at_]
        exact pr
      rw [pr']
      dsimp only
      rw [jat] at hi
      have hil : i < L.length := by
        have z1 := (List.getElem?_eq_some_iff.mp hi).1
        have z2 := R.tab.sz
        rw [List.length_map] at z2
        rw [Array.length_toList] at z1
        omega
      obtain ⟨p, hp⟩ : ∃ p, L[i]? = some p := ⟨_, List.getElem?_eq_getElem hil⟩
      have hm : p ∈ L := List.mem_of_getElem? hp
      have slot : t.slot (way t.mask (th P w k) (c + q)) = .live i := slot_live R.tab.ris hi
      have rest : wpAny (model P w) A (searchRest a (.ref x) (th P w k) true f es t (way t.mask (th P w k) (c + q)) i (road t (th P w k) (c + (q + 1)))) Q E s := by
        unfold searchRest
        rw [rows_at R.rows hp]
        dsimp only
        refine wpAny_bind (wpAny_holding (wpAny_eqBool_tuple hu (R.tup p hm) hx (wpAny_bind (wpAny_setState_of ho hd R.fits ?_))))
        dsimp only
        by_cases hk : p.1 = k
        · refine wp_if_pos (by simp [hk]) (wpAny_pure (yes ?_))
          exact List.mem_map.mpr ⟨p, hm, hk⟩
        · refine wp_if_neg (by simp [hk]) ?_
          try refine wpAny_bind (wpAny_pure ?_)
          rw [sameMem]
          dsimp only
          rw [if_pos rfl, slot]
          dsimp only
          rw [rows_at R.rows hp]
          dsimp only
          refine wpAny_bind (wpAny_isSame_ref_self (wpAny_bind (wpAny_pure ?_)))
          rw [if_pos rfl]
          dsimp only
          refine wp_if_neg (by simp [hk]) ?_
          refine seek R hx hu hKf hK hKb yes no f (c + (q + 1)) _ rfl (by omega) (by omega) fun i0 p0 h0 e0 => ?_
          obtain ⟨c', a1, a2, a3⟩ := here i0 p0 h0 e0
          refine ⟨c', ?_, a2, a3⟩
          rcases Nat.lt_trichotomy c' (c + q) with z | z | z
          · refine absurd ?_ (none_ (c' - c) i0 (by omega) (by rw [jat, show c + (c' - c) = c' by omega]; exact a3))
            exact (hashAt i0 p0 h0).trans (by rw [e0])
          · rw [z] at a3
            have sl := slot_live R.tab.ris a3
            rw [slot] at sl
            injection sl with sl
            rw [← sl, hp] at h0
            exact absurd ((congrArg Prod.fst (Option.some.inj h0)).trans e0) hk
          · omega
      by_cases hl : t.led = true
      · refine wp_if_neg (by simp [hl]) ?_
        try refine wpAny_bind (wpAny_pure ?_)
        exact rest
      · refine wp_if_pos (by simp [hl]) (wpAny_bind (unseen hx (fun y hy => ?_) (wp_if_neg (by decide) ?_)))
        · obtain ⟨e, he, rfl⟩ := List.mem_map.mp hy
          have he2 : e ∈ es.toList := by
            have : e ∈ es ∧ e.1 = th P w k := by simpa using he
            simpa using this.1
          rw [R.rows] at he2
          obtain ⟨p2, hp2, rfl⟩ := List.mem_map.mp he2
          exact ⟨p2.1, p2.2, rfl, R.tup p2 hp2⟩
        · try refine wpAny_bind (wpAny_pure ?_)
          exact rest
    · have pr' : t.probe (fun i => (es[i]?.map (·.1)).getD 0) (th P w k) (stand.getD (t.probeStart (th P w k))) = some (.empty (way t.mask (th P w k) K) none) := by
        have e2 := jat (K - c)
        rw [hcK] at e2
        rw [hst, ← e2]
        exact pr
      rw [pr']
      refine wpAny_pure (no fun hm => ?_)
      obtain ⟨p0, h0, e0⟩ := List.mem_map.mp hm
      obtain ⟨i0, hi0⟩ := List.getElem?_of_mem h0
      obtain ⟨c', a1, a2, a3⟩ := here i0 p0 hi0 e0
      refine none_ (c' - c) i0 (by omega) (by rw [jat, show c + (c' - c) = c' by omega]; exact a3) ?_
      exact (hashAt i0 p0 hi0).trans (by rw [e0])
/-- as adding asks for it -/
theorem seek_add (R : TpSet P w s.heap a L es ep t) {x : Addr} {k : List Key} (hx : Tp P w s.heap k x) (hu : A.units < cLine) {Q : SetFound → Shared → Prop} (yes : k ∈ L.map Prod.fst → Q (.there none) s)
    (no : ∀ K, k ∉ L.map Prod.fst → way t.mask (th P w k) K ∉ t.place.toList → (∀ c, c < K → way t.mask (th P w k) c ∈ t.place.toList) → Q (.free (way t.mask (th P w k) K) false) s) : wpAny (model P w) A (setSearch a (.ref x) (th P w k) true) Q E s := by
  have room := R.room
  obtain ⟨K, h1, h2, h3⟩ := R.tab.first (by rw [List.length_map]; omega) (th P w k)
  have few : 10 * SetTable.turns t.mask ≤ 1420 := by
    unfold SetTable.turns
    rcases R.tab.mok with e | e | e <;> omega
  unfold setSearch
  refine seek R hx hu h1 h2 h3 yes (fun hn => no K hn h2 h3) 100000 0 none rfl (Nat.zero_le _) (by omega) fun i p hp e => ?_
  have hi : (L.map fun p => th P w p.1)[i]? = some (th P w k) := by rw [List.getElem?_map, hp, ← e]; rfl
  have il : i < t.place.toList.length := by
    have z1 : i < L.length := (List.getElem?_eq_some_iff.mp hp).1
    have z2 := R.tab.sz
    rw [List.length_map] at z2
    rw [Array.length_toList]
    omega
  have hj := List.getElem?_eq_getElem il
  obtain ⟨c, hc, ec⟩ := R.tab.before h2 hi hj
  exact ⟨c, Nat.zero_le _, hc, by rw [hj, ec]⟩
end
end VI

/-! VIzc: the table of a set of tuples: adding. -/
namespace VI
open PySem PySem.Spec PyProof.Rows L2

section
variable {P : Program} {w : World} {A : Around} {E : Value → Shared → Prop} {s : Shared}
theorem tp_same {h h' : Heap} {k : List Key} {a b : Addr} {o : Obj} {es : Array (Int × Value)} {ep : Nat} {t : SetTable} (hb : Tp P w h k b) (ho : h.get? a = some o) (hd : o.data = .set es ep t) (sb : Heap.SameBut a h h') : Tp P w h' k b := by
  obtain ⟨ob, items, n, e1, e2, e3, e4⟩ := hb
  refine ⟨ob, items, n, (sb.2 b fun z => ?_).trans e1, e2, e3, e4⟩
  subst z
  rw [ho] at e1
  cases e1
  rw [hd] at e3
  cases e3
/-- the rows in another order -/
theorem rows_order {L : List Ent} {es : Array (Int × Value)} {order : Array Nat} (hr : es.toList = L.map (row P w)) (hp : order.toList.Perm (List.range L.length)) :
    ∃ M : List Ent, M.Perm L ∧ (order.filterMap (es[·]?)).toList = M.map (row P w) ∧ (M.map fun p => th P w p.1) = order.toList.map fun i => (es.map (·.1)).getD i 0 := by
  have one : ∀ l : List Nat, (∀ i ∈ l, i < L.length) → l.filterMap (fun i => es[i]?) = (l.filterMap fun i => L[i]?).map (row P w) ∧ ((l.filterMap fun i => L[i]?).map fun p => th P w p.1) = l.map fun i => (es.map (·.1)).getD i 0 := by
    intro l
    induction l with
    | nil => intro _; exact ⟨rfl, rfl⟩
    | cons i l ih =>
      intro hl
      obtain ⟨a1, a2⟩ := ih fun j hj => hl j (List.mem_cons_of_mem _ hj)
      obtain ⟨e0, hi⟩ : ∃ e0, L[i]? = some e0 := ⟨_, List.getElem?_eq_getElem (hl i List.mem_cons_self)⟩
      have ei := rows_at hr hi
      have eh : (es.map (·.1)).getD i 0 = th P w e0.1 := by
        rw [Array.getD_eq_getD_getElem?, Array.getElem?_map, ei]
        rfl
      rw [List.filterMap_cons_some ei, List.filterMap_cons_some hi]
      refine ⟨by rw [a1]; rfl, ?_⟩
      rw [List.map_cons, List.map_cons, a2, eh]
  obtain ⟨b1, b2⟩ := one order.toList fun i hi => List.mem_range.mp (hp.mem_iff.mp hi)
  refine ⟨order.toList.filterMap fun i => L[i]?, ?_, by rw [Array.toList_filterMap]; exact b1, b2⟩
  have whole : ∀ M : List Ent, (List.range M.length).filterMap (fun i => M[i]?) = M := by
    intro M
    induction M with
    | nil => rfl
    | cons x M ih =>
      rw [List.length_cons, List.range_succ_eq_map, List.filterMap_cons_some (show (x :: M)[0]? = some x from rfl), List.filterMap_map]
      exact congrArg (x :: ·) ih
  have z := hp.filterMap fun i => L[i]?
  rw [whole L] at z
  exact z
variable {a : Addr} {L : List Ent} {es : Array (Int × Value)} {ep : Nat} {t : SetTable}
theorem relay {o : Obj} (ho : s.heap.get? a = some o) (hex : o.ExactSet) (hd : o.data = .set es ep t) (hr : es.toList = L.map (row P w)) (ft : t.fits es.size = true) (nd : (L.map Prod.fst).Nodup) (tup : ∀ p ∈ L, Tp P w s.heap p.1 p.2) (few : L.length < 64) {n M : Nat}
    (hw : SetTable.sizeAbove n - 1 = M) (hM : MaskOk M) (hs : SetTable.sizeAbove n ≤ 128) (room : L.length * 5 < M * 3) {Q : Unit → Shared → Prop}
    (q : ∀ h' L' es' ep' t', Heap.SameBut a s.heap h' → TpSet P w h' a L' es' ep' t' → L'.Perm L → Q () { s with heap := h' }) : wpAny (model P w) A (setRelay a n) Q E s := by
  have sz := rows_size hr
  obtain ⟨t2, order, e, pm, T, em, _, _, _⟩ := relaid_ok t (hs := es.map (·.1)) (wanted := n) hw hM (by rw [Array.size_map, sz]; omega)
  rw [Array.size_map, sz] at pm
  obtain ⟨L2, p1, p2, p3⟩ := rows_order hr pm
  rw [← p3] at T
  have sz2 : (order.filterMap (es[·]?)).size = es.size := by rw [rows_size p2, p1.length_eq, sz]
  have big : (128 : Nat) ≤ sizeLine := by rw [sizeLine_eq]; decide
  rw [setRelay_eq]
  refine wpAny_bind (wpAny_setState_of ho hd ft ?_)
  dsimp only
  refine wp_if_neg (by omega) ?_
  try refine wpAny_bind (wpAny_pure ?_)
  rw [e]
  dsimp only
  refine wpAny_bind (wp_if_neg (by rw [sz2]; simp) ?_)
  try refine wpAny_bind (wpAny_pure ?_)
  refine wpAny_pure ?_
  dsimp only
  refine wpAny_storeSet_of ho hd (q _ L2 (order.filterMap (es[·]?)) (ep + 1) t2 (Heap.SameBut.update ..) ?_ p1) (by rw [sz2, sz]; omega)
  exact ⟨⟨_, store_at ho hd, ⟨hex.1, hex.2.1, hex.2.2⟩, rfl⟩, p2, T, (p1.map Prod.fst).nodup_iff.mpr nd, fun p hp => tp_same (tup p (p1.mem_iff.mp hp)) ho hd (Heap.SameBut.update ..), by rw [p1.length_eq, em]; exact room, by rw [p1.length_eq]; exact few⟩
theorem TpSet.plainOff {es : Array (Int × Value)} {t : SetTable} {hs : List Int} (T : TabOk t hs) (b : Bool) : TabOk (if b = true then t else { t with plain := false }) hs := by
  cases b with
  | true => exact T
  | false => exact ⟨T.ris, T.dm, T.sz, T.mok, T.bd, T.reach⟩
theorem add_tup (R : TpSet P w s.heap a L es ep t) {x : Addr} {k : List Key} (hx : Tp P w s.heap k x) (hu : A.units < cLine) (few : L.length + 1 < 64) {Q : Bool → Shared → Prop}
    (q : ∀ b h' L' es' ep' t', Heap.SameBut a s.heap h' → TpSet P w h' a L' es' ep' t' → (k ∈ L.map Prod.fst → L' = L) → (k ∉ L.map Prod.fst → L'.Perm ((k, x) :: L)) → Q b { s with heap := h' }) : wpAny (model P w) A (setAddHashed a (.ref x) (th P w k)) Q E s := by
  obtain ⟨o, ho, hex, hd⟩ := R.ob
  have sz := rows_size R.rows
  have room := R.room
  unfold setAddHashed
  refine wpAny_holding ?_
  rw [show (100000 : Nat) = 99999 + 1 from rfl, setAddHashedIn_succ]
  refine wpAny_bind (wpAny_setState_of ho hd R.fits ?_)
  dsimp only
  refine wp_if_neg (by simp [byScan, Value.scannable]) ?_
  try refine wpAny_bind (wpAny_pure ?_)
  refine wpAny_bind (seek_add R hx hu (fun hm => ?_) fun K hm hK hb => ?_)
  · exact wpAny_pure (q false s.heap L es ep t (Heap.SameBut.refl a s.heap) R (fun _ => rfl) fun z => absurd hm z)
  dsimp only
  refine wpAny_bind (wpAny_setState_of ho hd R.fits ?_)
  dsimp only
  obtain ⟨q1, q2, q3, q4, q5, q6, q7, q8, q9⟩ := R.tab.put hK hb
  obtain ⟨⟨t1, p⟩, ept⟩ : ∃ pt, pt = t.put (way t.mask (th P w k) K) := ⟨_, rfl⟩
  rw [← ept] at q1 q3 q4 q5 q6 q7 q8 q9 ⊢
  dsimp only at q1 q3 q4 q5 q6 q7 q8 q9 ⊢
  rw [← q1] at q2 q3
  have fin : ∀ b : Bool, wpAny (model P w) A (do
      let t := if b = true then t1 else { t1 with plain := false }
      storeSet a (SetTable.insertAt es p (th P w k, Value.ref x)) t
      if !false && t.tooFull then setRelay a (SetTable.grown (es.size + 1))
      return true) Q E s := by
    intro b
    have T1 := TpSet.plainOff (es := es) q3 b
    have m1 : (if b = true then t1 else { t1 with plain := false }).mask = t.mask := by cases b <;> exact q4
    have f1 : (if b = true then t1 else { t1 with plain := false }).fill = L.length + 1 := by
      rw [List.length_map] at q9
      cases b <;> exact q9
    generalize (if b = true then t1 else { t1 with plain := false }) = t2 at T1 m1 f1 ⊢
    dsimp only
    have hin : (SetTable.insertAt es p (th P w k, Value.ref x)).toList = (L.take p ++ (k, x) :: L.drop p).map (row P w) := by
      rw [SetTable.toList_insertAt, R.rows, List.map_append, List.map_cons, List.map_take, List.map_drop]
      rfl
    have pm : (L.take p ++ (k, x) :: L.drop p).Perm ((k, x) :: L) := by
      have z : (L.take p ++ (k, x) :: L.drop p).Perm ((k, x) :: (L.take p ++ L.drop p)) := List.perm_middle
      rwa [List.take_append_drop] at z
    have ehs : (L.map fun p => th P w p.1).take p ++ th P w k :: (L.map fun p => th P w p.1).drop p = (L.take p ++ (k, x) :: L.drop p).map fun p => th P w p.1 := by
      rw [List.map_append, List.map_cons, List.map_take, List.map_drop]
    rw [ehs] at T1
    generalize L.take p ++ (k, x) :: L.drop p = L1 at hin pm T1
    generalize SetTable.insertAt es p (th P w k, Value.ref x) = es1 at hin ⊢
    have n1 : L1.length = L.length + 1 := pm.length_eq
    have z1 := rows_size hin
    have big : (64 : Nat) ≤ sizeLine := by rw [sizeLine_eq]; decide
    have nd1 : (L1.map Prod.fst).Nodup := (pm.map Prod.fst).nodup_iff.mpr (List.nodup_cons.mpr ⟨hm, R.nd⟩)
    refine wpAny_bind (wpAny_storeSet_of ho hd ?_ (by omega))
    have sb : Heap.SameBut a s.heap (s.heap.update a (Obj.putSet es1 t2)) := Heap.SameBut.update ..
    have ho1 := store_at (es' := es1) (t' := t2) ho hd
    generalize s.heap.update a (Obj.putSet es1 t2) = h1 at sb ho1 ⊢
    have tup1 : ∀ p ∈ L1, Tp P w h1 p.1 p.2 := fun p hp => by
      rcases List.mem_cons.mp (pm.mem_iff.mp hp) with e | hp
      · rw [e]; exact tp_same hx ho hd sb
      · exact tp_same (R.tup p hp) ho hd sb
    by_cases full : t2.tooFull = true
    · have hfull : (L.length + 1) * 5 ≥ t.mask * 3 := by
        have z := full
        unfold SetTable.tooFull at z
        rw [decide_eq_true_eq, f1, m1] at z
        exact z
      have two : (t.mask = 7 ∧ L.length = 4) ∨ (t.mask = 31 ∧ L.length = 18) := by
        rcases R.tab.mok with e | e | e
        · left; exact ⟨e, by omega⟩
        · right; exact ⟨e, by omega⟩
        · exfalso; omega
      have go : ∀ M, SetTable.sizeAbove (SetTable.grown (L.length + 1)) - 1 = M → MaskOk M → SetTable.sizeAbove (SetTable.grown (L.length + 1)) ≤ 128 → (L.length + 1) * 5 < M * 3 →
          wpAny (model P w) A (setRelay a (SetTable.grown (L.length + 1))) (fun _ s' => wpAny (model P w) A (pure true) Q E s') E { s with heap := h1 } := by
        intro M g1 g2 g3 g4
        refine relay (s := { s with heap := h1 }) ho1 ⟨hex.1, hex.2.1, hex.2.2⟩ rfl hin (fits_of T1 (by rw [List.length_map, z1]) (by rw [z1, n1, m1]; rcases two with ⟨e, e2⟩ | ⟨e, e2⟩ <;> omega)) nd1 tup1 (by omega) g1 g2 g3 (by rw [n1]; exact g4) ?_
        intro h2 L2 es2 ep2 t3 sb2 R2 pm2
        exact wpAny_pure (q true h2 L2 es2 ep2 t3 (sb.trans sb2) R2 (fun z => absurd z hm) fun _ => pm2.trans pm)
      rw [sz]
      first
        | (refine wpAny_bind ?_; refine wp_if_pos (by simp [full]) ?_)
        | (refine wp_if_pos (by simp [full]) ?_; refine wpAny_bind ?_)
      rcases two with ⟨_, e2⟩ | ⟨_, e2⟩
      · exact go 31 (by rw [e2, size_20]) (.inr (.inl rfl)) (by rw [e2, size_20]; decide) (by omega)
      · exact go 127 (by rw [e2, size_76]) (.inr (.inr rfl)) (by rw [e2, size_76]; decide) (by omega)
    · first
        | refine wp_if_neg (by simp [full]) ?_
        | (refine wpAny_bind ?_; refine wp_if_neg (by simp [full]) ?_; refine wpAny_pure ?_)
      refine wpAny_pure (q true h1 L1 es1 (ep + 1) t2 sb ⟨⟨_, ho1, ⟨hex.1, hex.2.1, hex.2.2⟩, rfl⟩, hin, T1, nd1, tup1, ?_, by omega⟩ (fun z => absurd z hm) fun _ => pm)
      have z := full
      unfold SetTable.tooFull at z
      rw [decide_eq_true_eq, f1] at z
      omega
  by_cases pl : t1.plain = true
  · first
      | (refine wpAny_bind ?_; refine wp_if_pos pl ?_; refine byValT hx fun r => ?_)
      | refine wp_if_pos pl (wpAny_bind (byValT hx fun r => ?_))
    exact fin r
  · first
      | (refine wpAny_bind ?_; refine wp_if_neg pl ?_; refine wpAny_pure ?_)
      | refine wp_if_neg pl (wpAny_bind (wpAny_pure ?_))
    exact fin true
end
end VI

/-! VIzd: len(set(xs)); repr(x); the calls of built-ins, all of them. -/
namespace VI
open PySem PySem.Spec PyProof.Rows L2

section
variable {P : Program} {w : World} {A : Around}
/-- a set of tuples that has the first i of them -/
def JT (P : Program) (w : World) (S : Addr) (ts : List (List Key)) (vs : List Value) (i : Nat) (h : Heap) : Prop :=
  (∃ L es ep t, TpSet P w h S L es ep t ∧ (∀ k, k ∈ L.map Prod.fst ↔ k ∈ ts.take i) ∧ L.length = ndist (ts.take i) ∧ ∀ p ∈ L, p.2 < S) ∧
    ∀ (j : Nat) (k : List Key), ts[j]? = some k → ∃ x, vs[j]? = some (.ref x) ∧ x < S ∧ Tp P w h k x
theorem ts_fresh {h : Heap} {a : Addr} (ho : h.get? a = some (newSet w)) : TpSet P w h a [] #[] 0 (.fresh 0 0 (!w.params.followText "set-order")) :=
  ⟨⟨_, ho, ⟨rfl, rfl, rfl⟩, rfl⟩, rfl, ⟨List.Pairwise.nil, rfl, rfl, .inl rfl, fun x hx => (by cases hx), fun i h j hi => (by simp at hi)⟩, List.nodup_nil, fun p hp => (by cases hp), (by show 0 * 5 < 7 * 3; decide), (by show 0 < 64; decide)⟩
theorem tp_keep {h h' : Heap} {k : List Key} {b n : Addr} (x : Tp P w h k b) (hb : b < n) (kk : ∀ c o, c ≤ n → h.get? c = some o → h'.get? c = some o) : Tp P w h' k b := by
  obtain ⟨o, items, m, ho, r⟩ := x
  exact ⟨o, items, m, kk b o (Nat.le_of_lt hb) ho, r⟩
theorem tp_off {h h' : Heap} {k : List Key} {b n : Addr} (x : Tp P w h k b) (hb : b < n) (sb : Heap.SameBut n h h') : Tp P w h' k b := by
  obtain ⟨o, items, m, ho, r⟩ := x
  exact ⟨o, items, m, (sb.2 b (Nat.ne_of_lt hb)).trans ho, r⟩
theorem jt_keep {S : Addr} {ts : List (List Key)} {vs : List Value} {i : Nat} {h h' : Heap} (j : JT P w S ts vs i h) (kk : ∀ c o, c ≤ S → h.get? c = some o → h'.get? c = some o) : JT P w S ts vs i h' := by
  obtain ⟨⟨L, es, ep, t, R, m, n, lt⟩, al⟩ := j
  refine ⟨⟨L, es, ep, t, ?_, m, n, lt⟩, fun j k e => ?_⟩
  · obtain ⟨o, ho, r⟩ := R.ob
    exact ⟨⟨o, kk S o (Nat.le_refl _) ho, r⟩, R.rows, R.tab, R.nd, fun p hp => tp_keep (R.tup p hp) (lt p hp) kk, R.room, R.few⟩
  · obtain ⟨x, e1, e2, e3⟩ := al j k e
    exact ⟨x, e1, e2, tp_keep e3 e2 kk⟩
theorem add_tp {S : Addr} {ts : List (List Key)} {vs : List Value} {i : Nat} {k : List Key} {u : Value} (hA : A.units < cLine) (few : ts.length < 60) (hk : ts[i]? = some k) (hv : vs[i]? = some u) : AddTo P w A S u (JT P w S ts vs i) (JT P w S ts vs (i + 1)) := by
  intro s Q E j q
  obtain ⟨⟨L, es, ep, t, R, m, n, lt⟩, al⟩ := j
  obtain ⟨x, e1, e2, e3⟩ := al i k hk
  rw [hv] at e1
  cases e1
  have hn : L.length + 1 < 64 := by
    have a := ndist_le (ts.take i)
    have b : (ts.take i).length ≤ ts.length := by rw [List.length_take]; omega
    omega
  unfold setAdd
  refine wpAny_holding (wpAny_bind (wpAny_pyHash_tuple hA e3 ?_))
  refine add_tup (s := { s with toks := s.toks + (k.length + 1) }) R e3 hA hn fun b h' L' es' ep' t' sb R2 c1 c2 => ?_
  have et : ts.take (i + 1) = ts.take i ++ [k] := by rw [List.take_succ, hk]; rfl
  refine q b h' (s.toks + (k.length + 1)) ⟨⟨L', es', ep', t', R2, fun k' => ?_, ?_, fun p hp => ?_⟩, fun j k' e => ?_⟩ (Nat.le_add_right _ _) sb
  · rw [et]
    by_cases c : k ∈ L.map Prod.fst
    · rw [c1 c, m k']
      simp only [List.mem_append, List.mem_singleton]
      exact ⟨.inl, fun z => z.elim id fun z => by rw [z]; exact (m k).mp c⟩
    · rw [((c2 c).map Prod.fst).mem_iff, List.map_cons, List.mem_cons, m k']
      simp only [List.mem_append, List.mem_singleton]
      exact ⟨fun z => z.symm, fun z => z.symm⟩
  · rw [et, ndist_snoc]
    by_cases c : k ∈ L.map Prod.fst
    · rw [c1 c, n, if_pos ((m k).mp c)]
    · rw [(c2 c).length_eq, List.length_cons, n, if_neg fun z => c ((m k).mpr z)]
  · by_cases c : k ∈ L.map Prod.fst
    · rw [c1 c] at hp; exact lt p hp
    · rcases List.mem_cons.mp ((c2 c).mem_iff.mp hp) with z | z
      · rw [z]; exact e2
      · exact lt p z
  · obtain ⟨y, f1, f2, f3⟩ := al j k' e
    exact ⟨y, f1, f2, tp_off f3 f2 sb⟩
theorem jk_keep {S : Addr} {ks : List Key} {i : Nat} {h h' : Heap} (j : JK P w S ks i h) (kk : ∀ c o, c ≤ S → h.get? c = some o → h'.get? c = some o) : JK P w S ks i h' := by
  obtain ⟨o, es, ep, t, ho, r⟩ := j
  exact ⟨o, es, ep, t, kk S o (Nat.le_refl _) ho, r⟩
end
section
variable {K : Fg} {ρ : Ro} {H : Hp}
theorem tksOf_ok : ∀ {ds : List D} {vs : List V} {ts : List (List Key)}, Rls ρ K H ds vs → tksOf ds = some ts → ∀ (j : Nat) (k : List Key), ts[j]? = some k → ∃ b, vs[j]? = some (.ref b) ∧ H b = some (.tup (k.map kV))
  | _, _, _, .nil, e, j, k, ek => by cases e; simp at ek
  | _, _, _, .cons (d := d) (ds := ds) h r, e, j, k, ek => by
    simp only [tksOf] at e
    cases h1 : tkOf d with
    | none => rw [h1] at e; cases e
    | some k0 =>
      rw [h1] at e
      cases h2 : tksOf ds with
      | none => rw [h2] at e; cases e
      | some ks =>
        rw [h2] at e
        cases e
        cases j with
        | zero =>
          simp at ek
          subst ek
          obtain ⟨b, rfl, hb⟩ := tkOf_ok h h1
          exact ⟨b, rfl, hb⟩
        | succ j => exact tksOf_ok r h2 j k (by simpa using ek)
theorem tksOf_len : ∀ {ds : List D} {ts : List (List Key)}, tksOf ds = some ts → ts.length = ds.length
  | [], _, e => by cases e; rfl
  | d :: ds, _, e => by
    simp only [tksOf] at e
    cases h1 : tkOf d with
    | none => rw [h1] at e; cases e
    | some k0 =>
      rw [h1] at e
      cases h2 : tksOf ds with
      | none => rw [h2] at e; cases e
      | some ks => rw [h2] at e; cases e; exact congrArg Nat.succ (tksOf_len h2)
end
section
variable {X : Cx}
/-- set(x) of what lensetD counts: behind it the set's size is known -/
theorem call_setD {pins : List (Addr × Obj)} {σ : L2.St} {H : Hp} {s : Shared} {ρ : Ro} {h : IH} {d : D} {v : V} {u : Value} {n : Nat} {Q : Value → Shared → Prop} {E : Value → Shared → Prop} (hc : X.calm = true) (hu : X.A.units + 65 < cLine) (I : Inv X pins σ H s) (S : SR ρ X.K h H) (r : Rl ρ X.K H d v) (rv : RelV v u) (e : (seqOf h d).bind lensetD = some n)
    (fin : ∀ (h' : Heap) (tk : Nat) (o : Obj) (es : Array (Int × Value)) (ep : Nat) (t : SetTable), (∀ b o, s.heap.get? b = some o → h'.get? b = some o) → h'.get? s.heap.objs.size = some o → o.ExactSet → o.data = .set es ep t → t.fits es.size = true → es.size = n → n < 60 → Q (.ref s.heap.objs.size) { s with heap := h', toks := tk }) :
    wpAny (model X.prog X.w) X.A (call (.type "set") [u]) Q E s := by
  cases hs : seqOf h d with
  | none => rw [hs] at e; cases e
  | some ys =>
    rw [hs, Option.bind_some] at e
    obtain ⟨a, xs, rfl, q, wr⟩ := seqOf_ok S r hs
    obtain rfl : u = Value.ref a := rv
    obtain ⟨its, rl, hl⟩ : ∃ its : List Value, Vals xs its ∧ SqAt s.heap a its.toArray := by
      rcases q with q | q
      · obtain ⟨its, r1, pl, _⟩ := I.list q
        exact ⟨its, r1, .inl pl.isList⟩
      · obtain ⟨its, r1, pl, _⟩ := I.tuple q
        exact ⟨its, r1, .inr pl⟩
    have hd := I.ok.hd hc
    have len : its.length = ys.length := by rw [← rl.length, wr.length]
    unfold lensetD at e
    cases hk : keysOf ys with
    | some ks =>
      rw [hk] at e
      dsimp only at e
      by_cases few : ks.length < 60
      · rw [if_pos few] at e
        cases e
        have ex := keysOf_ok wr hk
        have lk : ks.length = its.length := by rw [← rl.length, ex, List.length_map]
        refine set_of hd hl (JK X.prog X.w s.heap.objs.size ks) (fun h0 _ h2 => ?_) (fun i h0 h1 j k => jk_keep j k) (fun i v hv => ?_) fun h' tk j kp => ?_
        · have ef : (fun k => hasK k (ks.take 0)) = fun _ => false := funext fun k => by
            have nk : ¬ k ∈ ks.take 0 := by rw [List.take_zero]; exact fun z => nomatch z
            simp only [hasK, nk, decide_false]
          unfold JK
          rw [ef]
          exact ⟨_, #[], 0, _, h2, ⟨rfl, rfl, rfl⟩, rfl, (fun e he => by simp at he), (fun k => by simp), (by unfold scanBound; decide), rfl, rfl⟩
        · have hi : i < ks.length := by
            rw [lk]
            simpa using (Array.getElem?_eq_some_iff.mp hv).1
          have hki := List.getElem?_eq_getElem hi
          obtain ⟨w0, e1, e2⟩ := rl.get (i := i) (x := kV ks[i]) (by rw [ex, List.getElem?_map, hki]; rfl)
          have e3 : its[i]? = some v := by simpa using hv
          rw [e3] at e1
          cases e1
          exact add_key few hki e2
        · obtain ⟨o, es, ep, t, ho, hex, hdt, _, _, _, hf, hn⟩ := j
          have full : ks.take its.toArray.size = ks := List.take_of_length_le (by simp [lk])
          rw [full] at hn
          have z := ndist_le ks
          exact fin h' tk o es ep t kp ho hex hdt hf hn (by omega)
      · rw [if_neg few] at e; cases e
    | none =>
      rw [hk] at e
      dsimp only at e
      cases ht : tksOf ys with
      | none => rw [ht] at e; cases e
      | some ts =>
        rw [ht] at e
        dsimp only at e
        by_cases few : ts.length < 60
        · rw [if_pos few] at e
          cases e
          have lt := tksOf_len ht
          have item : ∀ (j : Nat) (k : List Key), ts[j]? = some k → ∃ x, its[j]? = some (.ref x) ∧ x < s.heap.objs.size ∧ Tp X.prog X.w s.heap k x := fun j k ek => by
            obtain ⟨b, e1, e2⟩ := tksOf_ok wr ht j k ek
            obtain ⟨w0, e3, e4⟩ := rl.get e1
            cases e4
            have tb : Tp X.prog X.w s.heap k b := key_of I.hok e2
            refine ⟨b, e3, ?_, tb⟩
            obtain ⟨o, _, _, ho, _⟩ := tb
            exact Heap.lt_size ho
          refine set_of hd hl (JT X.prog X.w s.heap.objs.size ts its) (fun h0 h1 h2 => ?_) (fun i h0 h1 j k => jt_keep j k) (fun i v hv => ?_) fun h' tk j kp => ?_
          · refine ⟨⟨[], _, _, _, ts_fresh h2, fun k => by simp, by simp [ndist], fun p hp => (by cases hp)⟩, fun j k ek => ?_⟩
            obtain ⟨x, e1, e2, o, items, m, ho, r0⟩ := item j k ek
            exact ⟨x, e1, e2, o, items, m, h1 _ _ ho, r0⟩
          · have hi : i < ts.length := by
              rw [lt, ← len]
              simpa using (Array.getElem?_eq_some_iff.mp hv).1
            refine add_tp (by show X.A.units + 1 + 1 + 1 < cLine; omega) few (List.getElem?_eq_getElem hi) (by simpa using hv)
          · obtain ⟨⟨L, es, ep, t, R, m, nn, _⟩, _⟩ := j
            obtain ⟨o, ho, hex, hdt⟩ := R.ob
            have full : ts.take its.toArray.size = ts := List.take_of_length_le (by simp [lt, len])
            rw [full] at nn
            have z := ndist_le ts
            have ft : t.fits es.size = true := TpSet.fits (s := { s with heap := h' }) R
            exact fin h' tk o es ep t kp ho hex hdt ft (by rw [rows_size R.rows, nn]) (by omega)
        · rw [if_neg few] at e; cases e
/-- len(set(x)) -/
theorem s_lenset {a : Expr} {ea : Sig → IH → R D} {p p2 q pos : Pos} (hc : X.calm = true) (hu : X.A.units + 65 < cLine) (hg : Gl X "len") (hm : X.mg "len" = none) (hg2 : Gl X "set") (hm2 : X.mg "set" = none) (ha : PE X a (tE X.K ea)) (na : starEach [a] X.env = (false, eval a X.env) :: starEach [] X.env) :
    PE X (.Call (.Name "len" p) [.Call (.Name "set" p2) [a] [] q] [] pos) (tE X.K fun σ h => ((ea σ h).bd fun x h => .ok [x] h).bd fun xs h => bltD .lenset xs h) := by
  refine ⟨fun pins s σ H Q I h => ?_⟩
  obtain ⟨ρ, h, σI, S, L, p0⟩ := h
  have p1 : Post (RvE X.K) X.K ρ H Q ((ea σI h).bd fun x h => bltD .lenset [x] h) := by
    cases e : ea σI h with
    | bad => dsimp only at p0; rw [e] at p0; exact p0
    | ok d h' => dsimp only at p0; rw [e] at p0; exact p0
  refine Call_ (ld_blt I hg hm boot_len ?_)
  refine PyProof.Rows.callWith_builtin1 (PyProof.Rows.args_cons ?_ rfl) rfl rfl
  refine Call_ (ld_blt I hg2 hm2 boot_set ?_)
  refine PyProof.Rows.callWith_type1 (PyProof.Rows.args_cons (thn (ha.run pins s σ H _ I (stp (Rv := RvE X.K) S L p1)) fun v s1 ⟨x, H1, I1, r1, ρ1, d, h1, k1, S1, L1, rd1, q1⟩ => PyProof.Rows.args_nil ?_) na) na rfl
  simp only [bltD] at q1
  cases en : (seqOf h1 d).bind lensetD with
  | none => rw [en] at q1; exact q1.elim
  | some n =>
    rw [en] at q1
    refine call_setD hc hu I1 S1 rd1 r1 en fun h' tk o es ep t kp ho hex hdt hf hn lt => ?_
    refine PyProof.Rows.args_nil ?_
    have I2 : Inv X pins σ H1 { s1 with heap := h', toks := tk } := I1.kept kp
    exact call_len_set ho hex hdt hf (by omega) ⟨.int n, H1, I2.tok _, ⟨_, by rw [hn]⟩, post_same q1 S1 (.int _)⟩
/-! ### repr -/
mutual
theorem wtP_ok : ∀ d : PyData, wtP d ≤ 1000000 → d.showable = true ∧ d.hasDict = false ∧ d.shown.length ≤ wtP d
  | .none, _ => ⟨rfl, rfl, by simp only [PyData.shown, wtP]; decide⟩
  | .bool b, _ => ⟨rfl, rfl, by cases b <;> (simp only [PyData.shown, wtP]; decide)⟩
  | .int i, h => by
    simp only [wtP] at h ⊢
    by_cases c : i.natAbs < 10 ^ 12
    · rw [if_pos c]
      refine ⟨?_, rfl, PyData.shown_int_le c⟩
      show decide (i.natAbs.log2 < 1920) = true
      rw [decide_eq_true_eq]
      by_cases z : i.natAbs = 0
      · rw [z]; decide
      · have z2 : i.natAbs < 2 ^ 1920 := Nat.lt_trans c (by decide +kernel)
        exact (Nat.log2_lt z).mpr z2
    · rw [if_neg c] at h
      exact absurd h (by decide)
  | .str x, h => by
    simp only [wtP] at h ⊢
    by_cases c : x.cps.toList.all (fun c => decide (c < 16 ^ 8)) = true
    · rw [if_pos c]
      refine ⟨rfl, rfl, ?_⟩
      simp only [PyData.shown]
      exact StrLaws.reprText_len x fun y hy => by simpa using List.all_eq_true.mp c y hy
    · rw [if_neg c] at h
      exact absurd h (by decide)
  | .list xs, h => by
    simp only [wtP] at h ⊢
    obtain ⟨h1, h2, h3⟩ := wtPs_ok xs (by omega)
    refine ⟨by simpa [PyData.showable] using h1, by simpa [PyData.hasDict] using h2, ?_⟩
    simp only [PyData.shown]
    have z := listText_len_le (PyData.shownAll xs)
    have y : (PyData.shownAll xs).length = xs.length := shAll_len xs
    omega
  | .tuple xs, h => by
    simp only [wtP] at h ⊢
    obtain ⟨h1, h2, h3⟩ := wtPs_ok xs (by omega)
    refine ⟨by simpa [PyData.showable] using h1, by simpa [PyData.hasDict] using h2, ?_⟩
    simp only [PyData.shown]
    have z := tupleText_len_le (PyData.shownAll xs)
    have y : (PyData.shownAll xs).length = xs.length := shAll_len xs
    omega
  | .dict _, h => by
    simp only [wtP] at h
    exact absurd h (by decide)
theorem wtPs_ok : ∀ xs : List PyData, wtPs xs ≤ 1000000 → PyData.showableAll xs = true ∧ PyData.hasDictAll xs = false ∧ ((PyData.shownAll xs).map (·.length)).sum + 2 * xs.length ≤ wtPs xs
  | [], _ => ⟨rfl, rfl, by simp [PyData.shownAll]⟩
  | x :: xs, h => by
    simp only [wtPs] at h ⊢
    obtain ⟨a1, a2, a3⟩ := wtP_ok x (by omega)
    obtain ⟨b1, b2, b3⟩ := wtPs_ok xs (by omega)
    refine ⟨by simp [PyData.showableAll, a1, b1], by simp [PyData.hasDictAll, a2, b2], ?_⟩
    simp only [PyData.shownAll, List.map_cons, List.sum_cons, List.length_cons]
    omega
theorem shAll_len : ∀ xs : List PyData, (PyData.shownAll xs).length = xs.length
  | [] => rfl
  | x :: xs => by simp only [PyData.shownAll, List.length_cons, shAll_len xs]
end
theorem cr_repr (hg : X.A.guards = some []) (hu : X.A.units + 65 < cLine) : CallR X (.builtin "repr") (rC X.K (bltD .reprV)) := by
  rintro pins s σ H vs us Q I rv ⟨ρ, h, ds, S, r, p⟩
  match ds, r, p with
  | [], _, p => exact False.elim p
  | x :: _ :: _, _, p => exact False.elim p
  | [d], r, p =>
    obtain ⟨v, rfl, r0⟩ := r.inv1
    obtain ⟨u, rfl, ru⟩ := vals1 rv
    simp only [bltD] at p
    cases hd : pyD (viewD h d) with
    | none => rw [hd] at p; exact p.elim
    | some y =>
      rw [hd] at p
      dsimp only at p
      by_cases c : wtP y ≤ 1000000 ∧ y.depth ≤ 40
      · rw [if_pos c] at p
        obtain ⟨a1, a2, a3⟩ := wtP_ok y c.1
        have sz : y.shown.length ≤ sizeLine := Nat.le_trans a3 (Nat.le_trans c.1 (by rw [sizeLine_eq]; decide))
        have q := post_same p S (.str _)
        obtain ⟨as, R⟩ := Dp.reads I y _ u (view_ok S r0 hd) ru
        cases R with
        | none => simp only [PyData.shown] at q; exact PySem.P.repr_of_none ⟨.str _, H, I.tok _, ⟨_, rfl⟩, q⟩
        | bool b => simp only [PyData.shown] at q; exact PySem.P.repr_of_bool ⟨.str _, H, I.tok _, ⟨_, rfl⟩, q⟩
        | int i t =>
          simp only [PyData.shown] at q
          exact PySem.P.repr_of_int (by simpa [PyData.showable] using a1) ⟨.str _, H, I.tok _, ⟨_, rfl⟩, q⟩
        | str x t =>
          simp only [PyData.shown] at q sz
          exact PySem.P.repr_of_str ⟨.str _, H, I.tok _, ⟨_, rfl⟩, q⟩ sz
        | list g1 g2 g3 g4 => exact repr_of_reads' (.list g1 g2 g3 g4) a1 (PyData.noDict_hsm a2) hg (by omega) (fun _ _ e => e) (fun h' t tk kp => ⟨.str _, H, I.kept kp, ⟨t, rfl⟩, q⟩) sz
        | tuple g1 g2 g3 g4 => exact repr_of_reads' (.tuple g1 g2 g3 g4) a1 (PyData.noDict_hsm a2) hg (by omega) (fun _ _ e => e) (fun h' t tk kp => ⟨.str _, H, I.kept kp, ⟨t, rfl⟩, q⟩) sz
        | dict g1 g2 g3 g4 g5 => cases a2
      · rw [if_neg c] at p; exact p.elim
/-- the built-ins with one road of their own -/
def bltW : Blt → Option (String × Value)
  | .sorted => some ("sorted", .builtin "sorted")
  | .reprV => some ("repr", .builtin "repr")
  | b => bltV b
theorem call_bltW (b : Blt) {n : String} {f : Value} (hb : bltW b = some (n, f)) (hc : X.calm = true) (hg : X.A.guards = some []) (hu : X.A.units + 65 < cLine) : CallR X f (rC X.K (bltD b)) := by
  cases b with
  | sorted => cases hb; exact cr_sorted
  | reprV => cases hb; exact cr_repr hg hu
  | _ => exact call_blt _ hb hc
end
end VI

/-! VIh: slices, calls, methods. -/
namespace VI
open PySem PySem.Spec PyProof.Rows L2

/-! ### the form of argument lists -/
def noStar : Expr → Bool
  | .Starred _ _ => false
  | _ => true
theorem star_cons {e : Expr} {es : List Expr} {env : Env} (h : noStar e = true) : starEach (e :: es) env = (false, eval e env) :: starEach es env := by
  cases e <;> first | rfl | exact absurd h Bool.false_ne_true
theorem star_any {env : Env} {pos : Pos} : ∀ {es : List Expr}, es.all noStar = true → (backTo pos (starEach es env)).any (·.1) = false
  | [], _ => rfl
  | e :: es, h => by
    simp only [List.all_cons, Bool.and_eq_true] at h
    rw [star_cons h.1]
    have ih := star_any (env := env) (pos := pos) h.2
    show (false || (backTo pos (starEach es env)).any (·.1)) = false
    rw [ih]; rfl
theorem star_all {env : Env} {pos : Pos} : ∀ {es : List Expr}, es.all noStar = true → (backTo pos (starEach es env)).all (fun x => !x.1) = true
  | [], _ => rfl
  | e :: es, h => by
    simp only [List.all_cons, Bool.and_eq_true] at h
    rw [star_cons h.1]
    have ih := star_all (env := env) (pos := pos) h.2
    show (true && (backTo pos (starEach es env)).all (fun x => !x.1)) = true
    rw [ih]; rfl
/-- what stands ahead of a dot -/
def plainBase : Expr → Bool
  | .Call (.Name _ _) [] [] _ => false
  | _ => true
theorem base_of {o : Expr} {m : Str} {env : Env} {w : Sem Value} (h : plainBase o = true) : attributeBase o m env w = w := by
  unfold attributeBase
  split
  · exact absurd h Bool.false_ne_true
  · rfl
def RvO : Ro → Hp → Option Int → Option Int → Prop := fun _ _ o p => o = p
section
variable {X : Cx} {e a b o : Expr} {ea eb eo : Sig → IH → R D} {pos apos cpos p : Pos} {es : List Expr} {eas : Sig → IH → R (List D)}
/-- a slice's end -/
theorem o_none : PO X none (rd RvO X.K fun _ h => .ok none h) := by
  refine ⟨fun pins s σ H Q I ⟨ρ, h, σI, S, L, p⟩ => po_none.run pins s σ H Q I ?_⟩
  exact p ρ H none (.refl ρ H) S rfl
theorem o_some (ha : PE X a (tE X.K ea)) : PO X (some a) (rd RvO X.K fun σ h => (ea σ h).bd fun x h => match x with | .int i => .ok (some i) h | _ => .bad) := by
  refine ⟨fun pins s σ H Q I ⟨ρ, h, σI, S, L, p⟩ => (po_some ha).run pins s σ H Q I ?_⟩
  refine rd_mono (stp (Rv := RvE X.K) S L p) fun v1 H1 ⟨ρ1, x, h1, k1, S1, L1, r1, p1⟩ => ?_
  cases r1 with
  | int i => exact ⟨i, rfl, p1 ρ1 H1 _ (.refl ρ1 H1) S1 rfl⟩
  | _ => exact p1.elim
theorem s_slc {lo hi : Option Expr} {p2 : Pos} {el eh : Sig → IH → R (Option Int)} (ha : PE X a (tE X.K ea)) (hl : PO X lo (rd RvO X.K el)) (hh : PO X hi (rd RvO X.K eh)) :
    PE X (.Subscript a (.Slice lo hi none p2) pos) (tE X.K fun σ h => (ea σ h).bd fun x h => (el σ h).bd fun l h => (eh σ h).bd fun u h => slcD x l u h) := by
  refine PE.imp (pe_slice sl_any ha hl hh) fun σ H Q ⟨ρ, h, σI, S, L, p⟩ => ?_
  refine rd_mono (stp (Rv := RvE X.K) S L p) fun v1 H1 ⟨ρ1, x, h1, k1, S1, L1, r1, p1⟩ => ?_
  refine rd_mono (stp (Rv := RvO) S1 L1 p1) fun v2 H2 ⟨ρ2, l, h2, k2, S2, L2, r2, p2⟩ => ?_
  refine rd_mono (stp (Rv := RvO) S2 L2 p2) fun v3 H3 ⟨ρ3, u, h3, k3, S3, L3, r3, p3⟩ => ?_
  cases (show l = v2 from r2)
  cases (show u = v3 from r3)
  exact ⟨ρ3, h3, x, S3, (r1.mono k2).mono k3, p3⟩
theorem s_rev {k : Nat} {p1 p2 p3 : Pos} (ha : PE X a (tE X.K ea)) :
    PE X (.Subscript a (.Slice none none (some (.UnaryOp .USub (.Constant (.int 1) k p1) p2)) p3) pos) (tE X.K fun σ h => (ea σ h).bd fun x h => match lstOf h x with | some xs => .ok (.lst xs.reverse) h | none => .bad) := by
  refine PE.imp (PE.fz (pe_revL ha)) fun σ H Q ⟨ρ, h, σI, S, L, p⟩ => ?_
  refine rd_mono (stp (Rv := RvE X.K) S L p) fun v1 H1 ⟨ρ1, x, h1, k1, S1, L1, r1, p1⟩ => ?_
  cases hl : lstOf h1 x with
  | none => rw [hl] at p1; exact p1.elim
  | some xs =>
    rw [hl] at p1
    obtain ⟨b, vs, rfl, q, w⟩ := lstOf_ok S1 r1 hl
    exact ⟨b, vs, rfl, q, post_lst p1 S1 w.reverse⟩
/-- a call of a built-in -/
theorem s_blt {x : Str} {b : Blt} {n : String} {f : Value} (hv : bltW b = some (n, f)) (hx : bootBuiltins x = some f) (hc : X.calm = true) (hgu : X.A.guards = some []) (hu : X.A.units + 65 < cLine) (hg : Gl X x) (hm : X.mg x = none) (hn : x ≠ "__name__") (hd : (x == ("__debug__" : Str)) = false)
    (ha : PA X (e :: es) (tA X.K eas)) (hs : (e :: es).all noStar = true) : PE X (.Call (.Name x p) (e :: es) [] pos) (tE X.K fun σ h => (eas σ h).bd fun xs h => bltD b xs h) := by
  have h1 : noStar e = true ∧ es.all noStar = true := by simpa using hs
  have key : tE X.K (fun σ h => (eas σ h).bd fun xs h => bltD b xs h) = tE X.K (fun σ h => (eas σ h).bd fun xs h => bltD b xs h) := rfl
  have red : ∀ σ H Q, tE X.K (fun σ h => (eas σ h).bd fun xs h => bltD b xs h) σ H Q → tCB (rC X.K (bltD b)) (tA X.K eas) σ H Q := fun σ H Q ⟨ρ, h, σI, S, L, p⟩ =>
    rd_mono (stp (Rv := RvA X.K) S L p) fun v1 H1 ⟨ρ1, x, h1, k1, S1, L1, r1, p1⟩ => ⟨ρ1, h1, x, S1, r1, p1⟩
  have c := call_bltW b hv hc hgu hu (X := X)
  cases f with
  | builtin id => exact PE.imp (pe_callB c hg hm hx ha hn hd (star_cons h1.1) (star_any h1.2)) red
  | type T => exact PE.imp (pe_callTy c hg hm hx ha hn hd (star_cons h1.1) (star_any h1.2)) red
  | _ => cases b <;> cases hv
/-! ### isinstance -/
def mroB : String → List String
  | "bool" => ["bool", "int", "object"]
  | t => [t, "object"]
theorem kit_D {ρ : Ro} {H : Hp} {h : IH} {d : D} {v : V} {u : Value} {t : String} {pins : List (Addr × Obj)} {σ : L2.St} {s : Shared} (I : Inv X pins σ H s) (S : SR ρ X.K h H) (r : Rl ρ X.K H d v) (rv : RelV v u) (e : typD h d = some t) :
    ∃ P : Heap → Prop, PySem.W.KitX X.K u (.type t) P ∧ P s.heap ∧ u ≠ .builtin "__main__.__loader__#opaque" := by
  cases r with
  | non => cases e; exact kit_of I rv (.base .non)
  | bl b => cases e; exact kit_of I rv (.base (.bl b))
  | int b => cases e; exact kit_of I rv (.base (.int b))
  | str b => cases e; exact kit_of I rv (.base (.str b))
  | ty b => cases e
  | tup q w => cases e; exact kit_of I rv (.base (.tup q))
  | gt q w => cases e; obtain ⟨o, its, n, h1, h2, _⟩ := q; exact kit_of I rv (.kTuple h1 h2)
  | lst q w =>
    cases e
    rcases q with ⟨o, q⟩ | ⟨its, n, hk, _, _⟩
    · exact kit_of I rv (.base (.frz q))
    · exact kit_of I rv (.kList hk rfl)
  | dK q z w => cases e; exact kit_of I rv (.fDict q)
  | dT q z w =>
    rename_i a o ks xs ds
    cases e
    cases (show u = Value.ref a from rv)
    obtain ⟨_, _, _, ys, _, o', es, ep, h1, h2, _⟩ := (show ObjOk X.prog X.w H s.heap a (.frz o (.dT (ks.zip xs))) from I.hok a _ q)
    exact ⟨_, PySem.W.kitx_dict, ⟨o', h1, h2.1⟩, fun z => nomatch z⟩
  | ref hk =>
    rename_i k a
    cases (show u = Value.ref a from rv)
    simp only [typD] at e
    cases hg : h.get k with
    | none => rw [hg] at e; cases e
    | some ob =>
      rw [hg] at e
      obtain ⟨b, hb, x⟩ := S.obj k ob hg
      rw [hk] at hb; cases hb
      cases ob with
      | lst xs => cases e; obtain ⟨vs, q, w⟩ := x; exact kit_of (x := .ref a) I rfl (.base (.lst q))
      | fz xs => cases e; obtain ⟨vs, o, q, w⟩ := x; exact kit_of (x := .ref a) I rfl (.base (.frz q))
      | dK _ _ => cases e; obtain ⟨vs, q, w⟩ := x; exact kit_of (x := .ref a) I rfl (.base (.dK q))
      | dT _ _ => cases e; obtain ⟨vs, q, w⟩ := x; exact kit_of (x := .ref a) I rfl (.base (.dT q))
      | zK _ _ => cases e; obtain ⟨vs, o, q, w⟩ := x; exact kit_of (x := .ref a) I rfl (.fDict q)
      | zT ks ds =>
        cases e
        obtain ⟨vs, o, q, w⟩ := x
        obtain ⟨_, _, _, ys, _, o', es, ep, h1, h2, _⟩ := (show ObjOk X.prog X.w H s.heap a (.frz o (.dT (ks.zip vs))) from I.hok a _ q)
        exact ⟨_, PySem.W.kitx_dict, ⟨o', h1, h2.1⟩, fun z => nomatch z⟩
/-- isinstance by values: the classes are built-in types -/
def isiTs : List String := ["int", "bool", "str", "tuple", "list", "dict"]
def typs : List String := ["NoneType", "bool", "int", "str", "tuple", "list", "dict"]
theorem typD_mem {h : IH} {d : D} {t : String} (e : typD h d = some t) : t ∈ typs := by
  cases d with
  | ref k =>
    simp only [typD] at e
    split at e <;> first | (cases e; decide) | cases e
  | ty n => cases e
  | _ => cases e; decide
theorem kitB_ok : ∀ t ∈ typs, ∀ u ∈ isiTs, kitB t u = some (t == u || (t == "bool" && u == "int")) := by decide +kernel
theorem kitAny_ok {K : Fg} {t : String} (ht : t ∈ typs) : ∀ {us : List String}, (∀ u ∈ us, u ∈ isiTs) → PySem.W.kitAny K (.type t) (us.map Value.type) = some (us.any fun u => t == u || (t == "bool" && u == "int"))
  | [], _ => rfl
  | u :: us, h => by
    have h1 : PySem.W.kitOne K (.type t) (.type u) = some (t == u || (t == "bool" && u == "int")) := kit_ty (kitB_ok t ht u (h u List.mem_cons_self))
    refine kitAny_cons h1 (fun hb => ?_) fun hb => ?_
    · rw [List.any_cons, hb, Bool.false_or]
      exact kitAny_ok ht fun v hv => h v (List.mem_cons_of_mem _ hv)
    · rw [List.any_cons, hb, Bool.true_or]
theorem clsV_all : ∀ us : List String, Paired ClsV (us.map V.ty) (us.map Value.type)
  | [] => .nil
  | u :: us => .cons (.ty u) (clsV_all us)
/-- the second argument gives types, as one, or as a new tuple -/
def tTys (us : List String) (one : Bool) : TE := fun _ H Q => if one then (∃ u, us = [u] ∧ Q (.ty u) H) else ∀ q, H q = none → Q (.ref q) (upd H q (.tup (us.map V.ty)))
theorem s_isi {us : List String} {one : Bool} {p2 : Pos} (hu : ∀ u ∈ us, u ∈ isiTs) (hg : Gl X "isinstance") (hm : X.mg "isinstance" = none) (ha : PE X a (tE X.K ea)) (hb : PE X b (tTys us one)) (h1 : noStar a = true) (h2 : noStar b = true) (ho : one = true → ∃ u, us = [u]) :
    PE X (.Call (.Name "isinstance" p) [a, b] [] pos) (tE X.K fun σ h => ((ea σ h).bd fun x h => .ok [x] h).bd fun xs h => bltD (.isi us) xs h) := by
  have c : CallR X (.builtin "isinstance") (fun vs H Q => ∃ ρ h d v w, vs = [v, w] ∧ SR ρ X.K h H ∧ Rl ρ X.K H d v ∧ ((∃ u, us = [u] ∧ w = .ty u) ∨ ∃ q, w = .ref q ∧ H q = some (.tup (us.map V.ty))) ∧ Post (RvE X.K) X.K ρ H Q (bltD (.isi us) [d] h)) := by
    rintro pins s σ H vs ws Q I rv ⟨ρ, h, d, v, w, rfl, S, r, hw, p⟩
    obtain ⟨u1, u2, rfl, r1, r2⟩ := vals2 rv
    simp only [bltD, isiD] at p
    cases ht : typD h d with
    | none => rw [ht] at p; exact p.elim
    | some t =>
      rw [ht] at p
      have q := post_same p S (.bl _)
      obtain ⟨P, Z, pz, hx⟩ := kit_D I S r r1 ht
      rcases hw with ⟨u, rfl, rfl⟩ | ⟨qa, rfl, hq⟩
      · obtain rfl : u2 = .type u := r2
        have e : PySem.W.kitOne X.K (.type t) (.type u) = some (t == u || (t == "bool" && u == "int")) := kit_ty (kitB_ok t (typD_mem ht) u (hu u List.mem_cons_self))
        dsimp only at q
        rw [List.any_cons, List.any_nil, Bool.or_false] at q
        exact PySem.W.kia_one Z I.kIn pz e hx fun tk => ⟨.bl _, H, I.tok tk, rfl, q⟩
      · obtain rfl : u2 = .ref qa := r2
        obtain ⟨_, its, rvs, ob, g1, g2, n, g3⟩ := (show ObjOk X.prog X.w H s.heap qa (.tup (us.map V.ty)) from I.hok qa _ hq)
        have e3 := ClsV.all (clsV_all us) rvs
        subst e3
        obtain ⟨oc, od, dt, sl⟩ := ob
        simp only at g2 g3
        subst g2 g3
        exact PySem.W.kia_tup Z I.kIn pz g1 (kitAny_ok (typD_mem ht) hu) hx fun tk => ⟨.bl _, H, I.tok tk, rfl, q⟩
  refine PE.imp (pe_callB c hg hm (by decide +kernel) (pa_cons ha (pa_cons hb pa_nil (star_cons h2)) (star_cons h1)) (by decide) (by decide) (star_cons h1) (star_any (by simp [h2]))) fun σ H Q ⟨ρ, h, σI, S, L, p⟩ => ?_
  have p' : Post (RvE X.K) X.K ρ H Q ((ea σI h).bd fun x h => bltD (.isi us) [x] h) := by
    cases e : ea σI h with
    | bad => dsimp only at p; rw [e] at p; exact p
    | ok d h' => dsimp only at p; rw [e] at p; exact p
  refine rd_mono (stp (Rv := RvE X.K) S L p') fun v1 H1 ⟨ρ1, x, h1, k1, S1, L1, r1, p1⟩ => ?_
  cases one with
  | true =>
    obtain ⟨u, rfl⟩ := ho rfl
    refine ⟨u, rfl, ?_⟩
    exact ⟨ρ1, h1, x, v1, _, rfl, S1, r1, .inl ⟨u, rfl, rfl⟩, p1⟩
  | false =>
    intro q hq
    refine ⟨ρ1, h1, x, v1, _, rfl, S1.new hq, r1.mono (.new hq), .inr ⟨q, rfl, upd_same⟩, p1.shift (.new hq)⟩
/-- the types -/
theorem ty_one {x : Str} {u : String} (hx : bootBuiltins x = some (.type u)) (hg : Gl X x) (hm : X.mg x = none) (hn : x ≠ "__name__") (hd : (x == ("__debug__" : Str)) = false) : PE X (.Name x p) (tTys [u] true) :=
  PE.imp (pe_bltn (v := .ty u) hg hm hx rfl hn hd) fun σ H Q h => by
    obtain ⟨w, e, q⟩ := h
    cases e
    exact q
theorem ty_name {x : Str} {u : String} (hx : bootBuiltins x = some (.type u)) (hg : Gl X x) (hm : X.mg x = none) (hn : x ≠ "__name__") (hd : (x == ("__debug__" : Str)) = false) : PE X (.Name x p) (tC (.ty u)) := pe_bltn (v := .ty u) hg hm hx rfl hn hd
def tCs : List V → TA
  | [] => tNil
  | v :: vs => tCons (tC v) (tCs vs)
theorem tCs_ok : ∀ {vs : List V} {σ : L2.St} {H : Hp} {Q : List V → Hp → Prop}, Q vs H → tCs vs σ H Q
  | [], _, _, _, q => q
  | v :: vs, σ, H, Q, q => tCs_ok (vs := vs) (Q := fun xs H2 => Q (v :: xs) H2) q
theorem ty_tup {us : List String} {k : Nat} (hl : us.length ≤ 10) (h : PA X es (tCs (us.map V.ty))) : PE X (.Tuple es k pos) (tTys us false) :=
  PE.imp (pe_tup h) fun σ H Q q => tCs_ok ⟨by rw [List.length_map]; exact Nat.le_trans hl (by decide), q⟩
/-! ### methods -/
theorem few_of {env : Env} : ∀ {es : List Expr}, es.all noStar = true → es.length < 30 → ((backTo cpos (starEach es env)).all (fun x => !x.1) && (backToKw cpos (keywordEach [] env)).all (fun x => x.1.isSome)
      && decide (es.length + ([] : List Keyword).length + (if ([] : List Keyword).isEmpty then 0 else 1) < 30)) = true := by
  intro es h1 h2
  rw [star_all h1]
  have : decide (es.length + ([] : List Keyword).length + (if ([] : List Keyword).isEmpty then 0 else 1) < 30) = true := decide_eq_true (by simpa using h2)
  rw [this]
  rfl
/-- the arguments, written out -/
theorem args1 {K : Fg} {ρ : Ro} {H : Hp} {Q : VK} {r : R D} {f : List D → IH → R D} (p : Post (RvE K) K ρ H Q ((r.bd fun y h => (R.ok [] h).bd fun ys h => .ok (y :: ys) h).bd f)) : Post (RvE K) K ρ H Q (r.bd fun y h => f [y] h) := by
  cases r with
  | bad => exact p
  | ok d h' => exact p
theorem args2 {K : Fg} {ρ : Ro} {H : Hp} {Q : VK} {r : R D} {g : IH → R D} {f : List D → IH → R D} (p : Post (RvE K) K ρ H Q ((r.bd fun y h => ((g h).bd fun z h => (R.ok [] h).bd fun ys h => .ok (z :: ys) h).bd fun ys h => .ok (y :: ys) h).bd f)) :
    Post (RvE K) K ρ H Q (r.bd fun y h => (g h).bd fun z h => f [y, z] h) := by
  cases r with
  | bad => exact p
  | ok d h' =>
    have p' : Post (RvE K) K ρ H Q ((((g h').bd fun z h => (R.ok [] h).bd fun ys h => R.ok (z :: ys) h).bd fun ys h => R.ok (d :: ys) h).bd f) := p
    show Post (RvE K) K ρ H Q ((g h').bd fun z h => f [d, z] h)
    cases e : g h' with
    | bad => rw [e] at p'; exact p'
    | ok z h2 => rw [e] at p'; exact p'
theorem s_append (ho : PE X o (tE X.K eo)) (ha : PE X a (tE X.K ea)) (hb : plainBase o = true) (hl : (apos.endLine == cpos.line) = true) (h1 : noStar a = true) :
    PE X (.Call (.Attribute o "append" apos) [a] [] cpos) (tE X.K fun σ h => (eo σ h).bd fun x h => if rcv .append x h then ((ea σ h).bd fun y h => (R.ok [] h).bd fun ys h => .ok (y :: ys) h).bd fun xs h => mthD .append x xs h else .bad) := by
  refine PE.imp (pe_bm PySem.F.plainAttrs_list PySem.F.slot_list_append PySem.F.type_list_append mt_append ho (pa_cons ha pa_nil (star_cons h1)) (base_of hb) (few_of (by simp [h1]) (by simp)) hl (star_cons h1) rfl) fun σ H Q ⟨ρ, h, σI, S, L, p⟩ => ?_
  refine rd_mono (stp (Rv := RvE X.K) S L p) fun v1 H1 ⟨ρ1, x, h1, k1, S1, L1, r1, p1⟩ => ?_
  split at p1
  · rename_i hr
    simp only [rcv] at hr
    cases hx : lstOf h1 x with
    | none => rw [hx] at hr; cases hr
    | some xs =>
      obtain ⟨a0, vs0, rfl, q0, w0⟩ := lstOf_ok S1 r1 hx
      refine ⟨.inl ⟨rfl, vs0, q0⟩, rd_mono (stp (Rv := RvE X.K) S1 L1 (args1 p1)) fun v2 H2 ⟨ρ2, y, h2, k2, S2, L2, r2, p2⟩ => ?_⟩
      have r1' : Rl ρ2 X.K H2 x (.ref a0) := Rl.mono k2 r1
      cases x with
      | ref k =>
        have hk : ρ2 k = some a0 := by cases r1' with | ref hk => exact hk
        simp only [mthD] at p2
        cases hg : h2.get k with
        | none => rw [hg] at p2; exact p2.elim
        | some ob =>
          rw [hg] at p2
          obtain ⟨b, hb, xx⟩ := S2.obj k ob hg
          rw [hk] at hb; cases hb
          cases ob with
          | lst ys =>
            dsimp only at p2
            obtain ⟨vs, q, w⟩ := xx
            by_cases hz : ys.length < sizeLine
            · rw [if_pos hz] at p2
              have mu : Mut (H2 a0) := by rw [q]; trivial
              have hl2 := w.length
              refine ⟨a0, vs, v2, rfl, rfl, q, by omega, ?_⟩
              refine p2 ρ2 _ _ (.wr hk mu) (S2.write hg hk mu ⟨_, upd_same, ?_⟩) .non
              exact (w.append (.one r2)).mono (.wr (o := _) hk mu)
            · rw [if_neg hz] at p2; exact p2.elim
          | _ => exact p2.elim
      | _ => exact p2.elim
  · exact p1.elim
theorem isD_of {ρ : Ro} {H : Hp} {h : IH} {d : D} {v : V} (S : SR ρ X.K h H) (r : Rl ρ X.K H d v) (e : (match dctOf h d with | .no => false | _ => true) = true) : ∃ a, v = .ref a ∧ IsD H a := by
  cases hd : dctOf h d with
  | no => rw [hd] at e; cases e
  | K ks ds => obtain ⟨a, vs, rfl, q, _⟩ := dctOf_K S r hd; exact ⟨a, rfl, .inl ⟨_, q⟩⟩
  | T ks ds => obtain ⟨a, vs, rfl, q, _⟩ := dctOf_T S r hd; exact ⟨a, rfl, .inr ⟨_, q⟩⟩
theorem m1_of {m : Str} (hb : plainBase o = true) (hl : (apos.endLine == cpos.line) = true) (h1 : noStar a = true) : M1 X o m apos a cpos :=
  ⟨base_of hb, few_of (by simp [h1]) (by simp), hl, by rw [star_cons h1]; rfl⟩
theorem m2_of {m : Str} (hb : plainBase o = true) (hl : (apos.endLine == cpos.line) = true) (h1 : noStar a = true) (h2 : noStar b = true) : M2 X o m apos a b cpos :=
  ⟨base_of hb, few_of (by simp [h1, h2]) (by simp), hl, by rw [star_cons h1, star_cons h2]; rfl⟩
theorem s_get1 (hu : X.A.units + 1 < cLine) (ho : PE X o (tE X.K eo)) (ha : PE X a (tE X.K ea)) (hb : plainBase o = true) (hl : (apos.endLine == cpos.line) = true) (h1 : noStar a = true) :
    PE X (.Call (.Attribute o "get" apos) [a] [] cpos) (tE X.K fun σ h => (eo σ h).bd fun x h => if rcv .get1 x h then ((ea σ h).bd fun y h => (R.ok [] h).bd fun ys h => .ok (y :: ys) h).bd fun xs h => mthD .get1 x xs h else .bad) := by
  refine PE.imp (pe_dget1 hu ho ha (m1_of hb hl h1)) fun σ H Q ⟨ρ, h, σI, S, L, p⟩ => ?_
  refine rd_mono (stp (Rv := RvE X.K) S L p) fun v1 H1 ⟨ρ1, x, h1, k1, S1, L1, r1, p1⟩ => ?_
  split at p1
  · rename_i hr
    obtain ⟨a0, rfl, q0⟩ := isD_of S1 r1 hr
    refine ⟨a0, rfl, q0, rd_mono (stp (Rv := RvE X.K) S1 L1 (args1 p1)) fun v2 H2 ⟨ρ2, y, h2, k2, S2, L2, r2, p2⟩ => ?_⟩
    have r1' : Rl ρ2 X.K H2 x (.ref a0) := Rl.mono k2 r1
    simp only [mthD] at p2
    cases hf : findD h2 x y with
    | none => rw [hf] at p2; exact p2.elim
    | some oo =>
      rw [hf] at p2
      obtain ⟨a1, ov, e1, g, ro⟩ := findD_ok S2 r1' r2 hf
      cases e1
      refine ⟨ov, g, ?_⟩
      cases oo <;> cases ov <;> first | exact ro.elim | exact post_same p2 S2 .non | exact post_same p2 S2 ro
  · exact p1.elim
theorem s_get2 (hu : X.A.units + 1 < cLine) (ho : PE X o (tE X.K eo)) (ha : PE X a (tE X.K ea)) (hbb : PE X b (tE X.K eb)) (hb : plainBase o = true) (hl : (apos.endLine == cpos.line) = true) (h1 : noStar a = true) (h2 : noStar b = true) :
    PE X (.Call (.Attribute o "get" apos) [a, b] [] cpos) (tE X.K fun σ h => (eo σ h).bd fun x h => if rcv .get2 x h then ((ea σ h).bd fun y h => ((eb σ h).bd fun z h => (R.ok [] h).bd fun ys h => .ok (z :: ys) h).bd fun ys h => .ok (y :: ys) h).bd fun xs h => mthD .get2 x xs h else .bad) := by
  refine PE.imp (pe_dget2 hu ho ha hbb (m2_of hb hl h1 h2)) fun σ H Q ⟨ρ, h, σI, S, L, p⟩ => ?_
  refine rd_mono (stp (Rv := RvE X.K) S L p) fun v1 H1 ⟨ρ1, x, h1, k1, S1, L1, r1, p1⟩ => ?_
  split at p1
  · rename_i hr
    obtain ⟨a0, rfl, q0⟩ := isD_of S1 r1 hr
    refine ⟨a0, rfl, q0, rd_mono (stp (Rv := RvE X.K) S1 L1 (args2 (g := eb σI) p1)) fun v2 H2 ⟨ρ2, y, h2, k2, S2, L2, r2, p2⟩ => ?_⟩
    refine rd_mono (stp (Rv := RvE X.K) S2 L2 p2) fun v3 H3 ⟨ρ3, z, h3, k3, S3, L3, r3, p3⟩ => ?_
    have r1' : Rl ρ3 X.K H3 x (.ref a0) := (r1.mono k2).mono k3
    have r2' : Rl ρ3 X.K H3 y v2 := Rl.mono k3 r2
    simp only [mthD] at p3
    cases hf : findD h3 x y with
    | none => rw [hf] at p3; exact p3.elim
    | some oo =>
      rw [hf] at p3
      obtain ⟨a1, ov, e1, g, ro⟩ := findD_ok S3 r1' r2' hf
      cases e1
      refine ⟨ov, g, ?_⟩
      cases oo <;> cases ov <;> first | exact ro.elim | exact post_same p3 S3 r3 | exact post_same p3 S3 ro
  · exact p1.elim
end
end VI

/-! VIi: targets, and what is walked. -/
namespace VI
open PySem PySem.Spec PyProof.Rows L2

/-! ### targets -/
mutual
def slotsT : Tgt → List Nat
  | .nm i => [i]
  | .tp ts => slotsTs ts
def slotsTs : List Tgt → List Nat
  | [] => []
  | t :: ts => slotsT t ++ slotsTs ts
end
/-- two rows of slots that differ at some places alone -/
structure Only (vs : List Nat) (σ σ' : L2.St) : Prop where
  len : σ'.length = σ.length
  out : ∀ i : Nat, i ∉ vs → σ'[i]? = σ[i]?
theorem Only.refl (vs : List Nat) (σ : L2.St) : Only vs σ σ := ⟨rfl, fun _ _ => rfl⟩
theorem Only.trans {vs : List Nat} {σ σ1 σ2 : L2.St} (a : Only vs σ σ1) (b : Only vs σ1 σ2) : Only vs σ σ2 := ⟨b.len.trans a.len, fun i h => (b.out i h).trans (a.out i h)⟩
theorem Only.mono {vs ws : List Nat} {σ σ' : L2.St} (a : Only vs σ σ') (h : ∀ i ∈ vs, i ∈ ws) : Only ws σ σ' := ⟨a.len, fun i hi => a.out i fun z => hi (h i z)⟩
theorem Only.wipe {vs : List Nat} {σ σ' : L2.St} (a : Only vs σ σ') : wipe σ' vs = wipe σ vs := by
  refine List.ext_getElem? fun i => ?_
  by_cases hi : i ∈ vs
  · have none_of : ∀ {τ : L2.St}, (L2.wipe τ vs)[i]? = (if i < τ.length then some none else none) := by
      intro τ
      clear a
      induction vs with
      | nil => cases hi
      | cons v vs ih =>
        show ((L2.wipe τ vs).set v none)[i]? = _
        by_cases hv : v = i
        · subst hv
          by_cases hl : v < τ.length
          · rw [List.getElem?_set_self (by rw [wipe_length]; exact hl), if_pos hl]
          · rw [List.getElem?_eq_none (by rw [List.length_set, wipe_length]; omega), if_neg hl]
        · rw [List.getElem?_set_ne hv]
          exact ih (by rcases List.mem_cons.mp hi with z | z; exact absurd z.symm hv; exact z)
    rw [none_of, none_of, a.len]
  · rw [wipe_out hi, wipe_out hi]
    exact a.out i hi
/-- a target's reading: the interpreter's store, and the slots alone -/
def rG (K : Fg) (t : Tgt) : TG := fun v σ H Q => ∃ ρ σI d σJ, SlR ρ K H σI σ ∧ Rl ρ K H d v ∧ asgT t d σI = some σJ ∧ ∀ σ', SlR ρ K H σJ σ' → Only (slotsT t) σ σ' → Q σ' H
def rGs (K : Fg) (ts : List Tgt) : TGs := fun vs σ H Q => ∃ ρ σI ds σJ, SlR ρ K H σI σ ∧ Rls ρ K H ds vs ∧ asgTs ts ds σI = some σJ ∧ ∀ σ', SlR ρ K H σJ σ' → Only (slotsTs ts) σ σ' → Q σ' H
structure Ctx where
  N : List Str
  sc : Scope
  fn : Str → Bool
def chkN (C : Ctx) (i : Nat) (x : Str) : Bool := decide (C.N[i]? = some x) && (match C.sc.names.lookup x with
  | some .local => true
  | some .cell => C.fn x
  | _ => false)
mutual
def chkG (C : Ctx) : Tgt → Expr → Bool
  | .nm i, .Name x _ => chkN C i x
  | .tp ts, .Tuple es _ _ => chkGs C ts es
  | _, _ => false
def chkGs (C : Ctx) : List Tgt → List Expr → Bool
  | [], [] => true
  | t :: ts, e :: es => noStar e && chkG C t e && chkGs C ts es
  | _, _ => false
end
/-- what the context X says -/
structure CxOk (C : Ctx) (X : Cx) : Prop where
  N : X.N = C.N
  nd : C.N.Nodup
  sc : X.env.scope = C.sc
  fn : X.fn = C.fn
  calm : X.calm = true
theorem PG.imp {X : Cx} {e : Expr} {t t' : TG} (h : PG X e t) (k : ∀ v σ H Q, t' v σ H Q → t v σ H Q) : PG X e t' := ⟨fun pins s σ H v u Q I r q => h.run pins s σ H v u Q I r (k v σ H Q q)⟩
theorem PGs.imp {X : Cx} {e : List Expr} {t t' : TGs} (h : PGs X e t) (k : ∀ v σ H Q, t' v σ H Q → t v σ H Q) : PGs X e t' := ⟨fun pins s σ H v u Q I r q => h.run pins s σ H v u Q I r (k v σ H Q q)⟩
theorem only_set {σ : L2.St} {i : Nat} {v : Option V} : Only [i] σ (σ.set i v) := ⟨List.length_set, fun j hj => List.getElem?_set_ne fun z => hj (by simp [z])⟩
theorem asgEach_cons {e : Expr} {es : List Expr} {env : Env} (h : noStar e = true) : assignEach (e :: es) env = (false, assign e env) :: assignEach es env := by
  cases e <;> first | rfl | exact absurd h Bool.false_ne_true
theorem asgEach_ok {env : Env} : ∀ {es : List Expr}, es.all noStar = true → (assignEach es env).length = es.length ∧ (assignEach es env).findIdx? (·.1) = none
  | [], _ => ⟨rfl, rfl⟩
  | e :: es, h => by
    simp only [List.all_cons, Bool.and_eq_true] at h
    obtain ⟨h1, h2⟩ := asgEach_ok (env := env) h.2
    rw [asgEach_cons h.1]
    refine ⟨by simp [h1], ?_⟩
    rw [List.findIdx?_cons]
    simp [h2]
section
variable {X : Cx} {C : Ctx}
theorem chkGs_star : ∀ {ts : List Tgt} {es : List Expr}, chkGs C ts es = true → es.all noStar = true ∧ ts.length = es.length
  | [], [], _ => ⟨rfl, rfl⟩
  | t :: ts, e :: es, h => by
    simp only [chkGs, Bool.and_eq_true] at h
    obtain ⟨h1, h2⟩ := chkGs_star h.2
    simp only [List.all_cons, Bool.and_eq_true, List.length_cons]
    exact ⟨⟨h.1.1, h1⟩, by omega⟩
  | [], _ :: _, h => by simp [chkGs] at h
  | _ :: _, [], h => by simp [chkGs] at h
theorem g_name {i : Nat} {x : Str} {pos : Pos} (G : CxOk C X) (h : chkN C i x = true) : PG X (.Name x pos) (gName i) := by
  unfold chkN at h
  simp only [Bool.and_eq_true, decide_eq_true_eq] at h
  obtain ⟨h1, h2⟩ := h
  rw [← G.N] at h1
  have nd : X.N.Nodup := by rw [G.N]; exact G.nd
  cases hl : C.sc.names.lookup x with
  | none => rw [hl] at h2; cases h2
  | some k =>
    rw [hl] at h2
    have hs : X.env.scope.names.lookup x = some k := by rw [G.sc]; exact hl
    cases k with
    | «local» => exact pg_name nd h1 (.inl hs) (.inr hs)
    | cell => exact pg_name nd h1 (.inr hs) (.inl (by rw [G.fn]; exact h2))
    | _ => cases h2
mutual
theorem g_ok (G : CxOk C X) : ∀ (t : Tgt) (e : Expr), chkG C t e = true → PG X e (rG X.K t)
  | .nm i, .Name x pos, h => by
    refine PG.imp (g_name G h) fun v σ H Q ⟨ρ, σI, d, σJ, L, r, e, q⟩ => ?_
    cases e
    exact q _ (L.set i r) only_set
  | .tp ts, .Tuple es k pos, h => by
    have h' : chkGs C ts es = true := h
    obtain ⟨hs, hl⟩ := chkGs_star h'
    obtain ⟨a1, a2⟩ := asgEach_ok (env := X.env) hs
    refine PG.imp (pg_tup G.calm (gs_ok G ts es h') a1 a2) fun v σ H Q ⟨ρ, σI, d, σJ, L, r, e, q⟩ => ?_
    have fin : ∀ {a : Addr} {xs : List V} {ds : List D}, v = .ref a → SqT X.K H a xs → Rls ρ X.K H ds xs → asgTs ts ds σI = some σJ → gTup X.K es.length (rGs X.K ts) v σ H Q := by
      intro a xs ds ev sq rs ea
      have ld : ∀ (ts : List Tgt) (ds : List D) (σI σJ : Sig), asgTs ts ds σI = some σJ → ts.length = ds.length := by
        intro ts
        induction ts with
        | nil => intro ds σI σJ e; cases ds with
          | nil => rfl
          | cons d ds => simp [asgTs] at e
        | cons t ts ih => intro ds σI σJ e; cases ds with
          | nil => simp [asgTs] at e
          | cons d ds =>
            simp only [asgTs] at e
            cases ht : asgT t d σI with
            | none => rw [ht] at e; cases e
            | some σ1 => rw [ht] at e; simp [ih ds _ _ e]
      have := ld ts ds σI σJ ea
      exact ⟨a, xs, ev, sq, by rw [← rs.length]; omega, ρ, σI, ds, σJ, L, rs, ea, q⟩
    cases r with
    | tup hq rs => exact fin rfl (.of hq) rs e
    | gt hq rs => exact fin rfl (.inr hq) rs e
    | _ => cases e
  | .nm _, .BoolOp _ _ _, h | .nm _, .NamedExpr _ _ _, h | .nm _, .BinOp _ _ _ _, h | .nm _, .UnaryOp _ _ _, h | .nm _, .Lambda _ _ _ _, h | .nm _, .IfExp _ _ _ _, h | .nm _, .Dict _ _ _, h | .nm _, .Set _ _ _, h | .nm _, .ListComp _ _ _ _, h
  | .nm _, .SetComp _ _ _ _, h | .nm _, .DictComp _ _ _ _ _, h | .nm _, .GeneratorExp _ _ _ _, h | .nm _, .Await _ _, h | .nm _, .Yield _ _, h | .nm _, .YieldFrom _ _, h | .nm _, .Compare _ _ _ _, h | .nm _, .Call _ _ _ _, h | .nm _, .FormattedValue _ _ _ _, h
  | .nm _, .JoinedStr _ _, h | .nm _, .Constant _ _ _, h | .nm _, .Attribute _ _ _, h | .nm _, .Subscript _ _ _, h | .nm _, .Starred _ _, h | .nm _, .List _ _, h | .nm _, .Tuple _ _ _, h | .nm _, .Slice _ _ _ _, h => by simp [chkG] at h
  | .tp _, .BoolOp _ _ _, h | .tp _, .NamedExpr _ _ _, h | .tp _, .BinOp _ _ _ _, h | .tp _, .UnaryOp _ _ _, h | .tp _, .Lambda _ _ _ _, h | .tp _, .IfExp _ _ _ _, h | .tp _, .Dict _ _ _, h | .tp _, .Set _ _ _, h | .tp _, .ListComp _ _ _ _, h
  | .tp _, .SetComp _ _ _ _, h | .tp _, .DictComp _ _ _ _ _, h | .tp _, .GeneratorExp _ _ _ _, h | .tp _, .Await _ _, h | .tp _, .Yield _ _, h | .tp _, .YieldFrom _ _, h | .tp _, .Compare _ _ _ _, h | .tp _, .Call _ _ _ _, h | .tp _, .FormattedValue _ _ _ _, h
  | .tp _, .JoinedStr _ _, h | .tp _, .Constant _ _ _, h | .tp _, .Attribute _ _ _, h | .tp _, .Subscript _ _ _, h | .tp _, .Starred _ _, h | .tp _, .List _ _, h | .tp _, .Name _ _, h | .tp _, .Slice _ _ _ _, h => by simp [chkG] at h
theorem gs_ok (G : CxOk C X) : ∀ (ts : List Tgt) (es : List Expr), chkGs C ts es = true → PGs X es (rGs X.K ts)
  | [], [], _ => by
    refine PGs.imp pgs_nil fun v σ H Q ⟨ρ, σI, d, σJ, L, r, e, q⟩ => ?_
    cases d with
    | nil => cases r; cases e; exact ⟨rfl, q σ L (.refl _ _)⟩
    | cons _ _ => simp [asgTs] at e
  | t :: ts, e :: es, h => by
    simp only [chkGs, Bool.and_eq_true] at h
    obtain ⟨⟨h0, h1⟩, h2⟩ := h
    refine PGs.imp (pgs_cons (g_ok G t e h1) (gs_ok G ts es h2) (by rw [asgEach_cons h0]; rfl)) fun v σ H Q ⟨ρ, σI, d, σJ, L, r, ea, q⟩ => ?_
    cases d with
    | nil => simp [asgTs] at ea
    | cons x ds =>
      cases r with
      | cons rx rs =>
        simp only [asgTs] at ea
        cases ht : asgT t x σI with
        | none => rw [ht] at ea; cases ea
        | some σ1 =>
          rw [ht] at ea
          refine ⟨_, _, rfl, ρ, σI, x, σ1, L, rx, ht, fun σ' L' o => ⟨ρ, σ1, ds, σJ, L', rs, ea, fun σ2 L2 o2 => q σ2 L2 ?_⟩⟩
          simp only [slotsTs]
          exact (o.mono fun i hi => List.mem_append_left _ hi).trans (o2.mono fun i hi => List.mem_append_right _ hi)
  | [], _ :: _, h => by simp [chkGs] at h
  | _ :: _, [], h => by simp [chkGs] at h
end
end
end VI

/-! VIj: what is walked. -/
namespace PySem
open Sem (wp)
open AutoSeq1 (wpAny_loadPart')
set_option maxHeartbeats 1000000 in
theorem vi_enum_tuple (l : Addr) (items : Array Value) (n : Nat) (dct : Option Addr) (sl : Array (Option Value)) :
    Meets (Builtin.«enumerate.__new__» ⟨[.type "enumerate", .ref l], []⟩) (fun _ R s => s.heap.get? l = some { cls := .type "tuple", dict := dct, data := .seq items n, slots := sl } ∧
      R (.ok (.ret (.ref (s.heap.push { cls := .type "tuple_iterator", data := .fields #[.ref l, .int 0 0] }).objs.size)))
        { s with heap := (s.heap.push { cls := .type "tuple_iterator", data := .fields #[.ref l, .int 0 0] }).push { cls := .type "enumerate", data := .fields #[.none, .bool false, .ref s.heap.objs.size, rawInt 0, .none, .none] } }) :=
  .of_wp fun prog w A R s h => by
    obtain ⟨hp, g, dr, tk, os⟩ := s
    obtain ⟨at_l, fin⟩ := h
    have sub_e := sub_enumerate
    have is_t : Heap.IsTuple (Shared.heap ⟨hp, g, dr, tk, os⟩) l items := ⟨_, at_l, rfl, n, rfl⟩
    wp_walk using wpAny_loadPart' at_l
    refine wpAny_stack_any fun stk => wpAny_pure ?_
    split
    · rename_i c _ _ _ _ _
      cases (c == Value.type "enumerate") <;>
      · wp_walk using wpAny_loadPart' at_l, wpAny_pyIter_tuple is_t
        exact ⟨_, rfl, fin⟩
    · wp_walk using wpAny_loadPart' at_l, wpAny_pyIter_tuple is_t
      exact ⟨_, rfl, fin⟩
theorem vi_call_enum {prog : Program} {w : World} {A : Around} {E : Value → Shared → Prop} {s : Shared} {l : Addr} {items : Array Value} {Q : Value → Shared → Prop} (is_t : s.heap.IsTuple l items)
    (fin : ∀ h', IsEnum h' (s.heap.objs.size + 1) s.heap.objs.size 0 .none → h'.IsTupleIter s.heap.objs.size l 0 →
      (∀ b o, s.heap.get? b = some o → h'.get? b = some o) → Q (.ref (s.heap.objs.size + 1)) { s with heap := h' }) : wpAny (model prog w) A (call (.type "enumerate") [.ref l]) Q E s := by
  obtain ⟨⟨c, dct, dt, sl⟩, at_l, e1, n, e2⟩ := is_t
  replace e1 : c = .type "tuple" := e1
  replace e2 : dt = .seq items n := e2
  subst e1 e2
  refine callType_new F.called_enumerate (by decide) (F.typeCall_enumerate_1 _) (F.newCall_enumerate_1 _) (fun obj => F.args_object_init_2 obj _) F.entry_enumerate_new (vi_enum_tuple l items n dct sl) ⟨at_l, ?_⟩
  generalize ho : ({ cls := .type "tuple_iterator", data := .fields #[.ref l, .int 0 0] } : Obj) = it
  have sz : (s.heap.push it).objs.size = s.heap.objs.size + 1 := Heap.size_push ..
  show _ ∧ _
  rw [sz]
  have at_e : IsEnum ((s.heap.push it).push { cls := .type "enumerate", data := .fields #[.none, .bool false, .ref s.heap.objs.size, rawInt 0, .none, .none] }) (s.heap.objs.size + 1) s.heap.objs.size 0 .none := by
    have q := Heap.get?_push_size (s.heap.push it) (o := { cls := .type "enumerate", data := .fields #[.none, .bool false, .ref s.heap.objs.size, rawInt 0, .none, .none] }) rfl
    rw [sz] at q
    exact q
  subst ho
  exact ⟨⟨_, at_e, rfl⟩, fin _ at_e ⟨_, Heap.get?_push_of_some _ (Heap.get?_push_size _ rfl), rfl, rfl⟩ fun b o x => Heap.get?_push_of_some _ (Heap.get?_push_of_some _ x)⟩
end PySem

namespace VI
open PySem PySem.Spec PyProof.Rows L2
/-- enumerate over the tuple at t -/
def Itet (K : Fg) (t : Addr) : It :=
  ⟨fun i H => ∃ xs x, SqT K H t xs ∧ xs[i]? = some x, fun i H v H' => ∃ T x, v = .ref T ∧ H T = none ∧ H' = upd H T (.tup [.int (i : Nat), x]) ∧ ∀ xs, SqT K H t xs → xs[i]? = some x,
    fun i H => ∃ xs, SqT K H t xs ∧ xs.length = i⟩
theorem turn_enumT {P : Program} {w : World} {K : Fg} {elts : List Expr} {kk : Nat} {tpos : Pos} (t e it : Addr) :
    Turn P w K (.Tuple elts kk tpos) (Itet K t) [e, it] e (fun i h => (∃ old, IsEnum h e it ((i : Nat) : Int) old) ∧ h.IsTupleIter it t i ∧ e ≠ it) where
  mem := by simp
  obj := fun i h st b hb => by
    obtain ⟨⟨old, he⟩, ⟨o, ho, hc, hd⟩, _⟩ := st
    rcases (show b = e ∨ b = it by simpa using hb) with z | z
    · rw [z]; exact ⟨_, he, fun v q => nomatch q⟩
    · rw [z]; exact ⟨o, ho, fun v q => by rw [hd] at q; cases q⟩
  keep := fun i h h' st k => by
    obtain ⟨⟨old, he⟩, hi, hne⟩ := st
    exact ⟨⟨old, k e (by simp) _ he⟩, hi.at fun o q => k it (by simp) o q, hne⟩
  item := by
    intro X hP hw hK hc i pins s σ H E I hf st hg
    subst hP hw hK
    obtain ⟨⟨old, he⟩, hit, hne⟩ := st
    obtain ⟨xs, x, hq, hx⟩ := hg
    obtain ⟨its, rv, ht, hz⟩ := I.tuple hq
    obtain ⟨u, hu, ru⟩ := rv.get hx
    have hit' := hit
    obtain ⟨oi, hoi, hci, hdi⟩ := hit'
    have ht' := ht
    obtain ⟨ot, hot, hct, nt, hdt⟩ := ht'
    have nti : t ≠ it := fun z => by rw [z, hoi] at hot; cases hot; rw [hci] at hct; exact absurd (Value.type.inj hct) (by decide)
    have nte : e ≠ t := fun z => by rw [← z, he] at hot; cases hot; exact absurd (Value.type.inj hct) (by decide)
    have hel : e < s.heap.objs.size := Heap.lt_size he
    have hil : it < s.heap.objs.size := Heap.lt_size hoi
    have hh : X.A.in1.handled = none := I.ok.hd hc
    have hlt : i < its.toArray.size := by
      have := (List.getElem?_eq_some_iff.mp hu).1
      simpa using this
    refine wpAny_pyNext_enum_itemD (Draws.tuple hh it t nti its.toArray) he ⟨hit, ht⟩ hlt hne (by simp only [List.mem_cons, List.not_mem_nil, or_false, not_or]; exact ⟨hne, nte⟩) fun y h' tk hy ho hst hT hsz hk => ?_
    have ey : y = u := by
      have h1 : its.toArray[i]? = some u := by simpa using hu
      rw [h1] at hy
      exact (Option.some.inj hy).symm
    subst ey
    refine ⟨_, rfl, wpAny_letOwnedTupleGo_enum (s := { s with heap := h', toks := tk + 1 }) ho fun h'' he' sb => ?_⟩
    have hT2 : h''.get? s.heap.objs.size = some { cls := .type "tuple", data := .seq #[.int i tk, y] } := (sb.2 _ (Nat.ne_of_gt hel)).trans hT
    have new : ObjOk X.prog X.w (upd H s.heap.objs.size (.tup [.int (i : Nat), x])) h'' s.heap.objs.size (.tup [.int (i : Nat), x]) :=
      ⟨by show 2 ≤ sizeLine; decide, [.int i tk, y], .cons ⟨_, rfl⟩ (.cons ru .nil), ⟨_, hT2, rfl, _, rfl⟩⟩
    have I1 : Inv X pins σ (upd H s.heap.objs.size (.tup [.int (i : Nat), x])) { s with heap := h'', toks := tk + 1 } := by
      refine I.turnedNew (ch := [e, it]) (fun b ob hb q => ?_) hf (Nat.le_refl _) new
      have b1 : b ≠ e := fun z => hb (by simp [z])
      have b2 : b ≠ it := fun z => hb (by simp [z])
      exact (sb.2 b b1).trans (hk b ob b1 b2 q)
    refine ⟨.ref s.heap.objs.size, _, I1, rfl, ⟨_, x, rfl, I.hok.fresh (Nat.le_refl _), rfl, fun ys hy => by rw [I.tuple_inj hy hq]; exact hx⟩, ⟨⟨y, ?_⟩, hst.1.at fun o q => (sb.2 it (Ne.symm hne)).trans q, hne⟩, fun b hb => ?_⟩
    · rw [show ((i + 1 : Nat) : Int) = (i : Int) + 1 by omega]
      exact he'
    · have hb' : b < s.heap.objs.size := by
        rcases (show b = e ∨ b = it by simpa using hb) with z | z
        · rw [z]; exact hel
        · rw [z]; exact hil
      rw [upd_ne (Nat.ne_of_lt hb')]
      exact (hf b hb).1
  done := by
    intro X hP hw hK hc i pins s σ H E I hf st hg
    subst hP hw hK
    obtain ⟨⟨old, he⟩, hit, hne⟩ := st
    obtain ⟨xs, hq, hx⟩ := hg
    obtain ⟨its, rv, ht, hz⟩ := I.tuple hq
    have hit' := hit
    obtain ⟨oi, hoi, hci, hdi⟩ := hit'
    have ht' := ht
    obtain ⟨ot, hot, hct, nt, hdt⟩ := ht'
    have nti : t ≠ it := fun z => by rw [z, hoi] at hot; cases hot; rw [hci] at hct; exact absurd (Value.type.inj hct) (by decide)
    obtain ⟨f0, f1, f2, f3, f4, f5⟩ := hf it (by simp)
    have hh : X.A.in1.handled = none := I.ok.hd hc
    have hl := rv.length
    have en : i = its.toArray.size := by simp; omega
    rw [en] at hit
    refine wpAny_pyNext_enum_endD (Draws.tuple hh it t nti its.toArray) he ⟨hit, ht⟩ fun h' eb => ⟨rfl, I.turned (t' := s.toks) (fun b o hb q => eb b o hb q) f0 f1 f3 f4 f5⟩
  self := fun A i s Q E st h => let ⟨⟨_, he⟩, _⟩ := st; wpAny_pyIter_enum he h
end VI

/-! VIk: what is walked, by the interpreter's items; comprehensions. -/
namespace VI
open PySem PySem.Spec PyProof.Rows L2

/-- a walk gives the items ds, in any heap behind H0 -/
def Wk (K : Fg) (ρ : Ro) (H0 : Hp) (J : It) (ds : List D) : Prop :=
  ∃ (G : Hp → Prop) (Y : Nat → Hp → V → Hp → Prop), Walk J ds.length G Y ∧ (∀ ρ' H, Mo ρ ρ' H0 H → G H) ∧
    ∀ ρ' i H x H' d, Mo ρ ρ' H0 H → ds[i]? = some d → Y i H x H' → (H' = H ∨ ∃ T u, H T = none ∧ H' = upd H T (.tup u)) ∧ Rl ρ' K H' d x
/-- the reading of a source -/
def RvI (K : Fg) : Ro → Hp → List D → It → Prop := fun ρ H ds J => Wk K ρ H J ds
abbrev iI (K : Fg) (ev : Sig → IH → R (List D)) : TI := rd (RvI K) K ev
theorem PI.imp {X : Cx} {tg e : Expr} {t t' : TI} (h : PI X tg e t) (k : ∀ σ H R, t' σ H R → t σ H R) : PI X tg e t' := ⟨fun pins s σ H R I q => h.run pins s σ H R I (k σ H R q)⟩
section
variable {K : Fg} {ρ : Ro} {H : Hp}
theorem wk_list {a : Addr} {xs : List V} {ds : List D} (q : FzL K H a xs) (r : Rls ρ K H ds xs) : Wk K ρ H (Itl K a) ds := by
  refine ⟨_, _, by rw [r.length]; exact walk_list (xs := xs), fun ρ' H' k => ?_, fun ρ' i H1 x H' d k e y => ?_⟩
  · exact (q.mo k).sq
  · obtain ⟨v, h1, h2⟩ := r.get e
    obtain ⟨y1, y2⟩ := y
    rw [h1] at y2
    cases y2
    subst y1
    exact ⟨.inl rfl, h2.mo k⟩
theorem wk_tup {a : Addr} {xs : List V} {ds : List D} (q : ∀ ρ' H', Mo ρ ρ' H H' → SqT K H' a xs) (r : Rls ρ K H ds xs) : Wk K ρ H (Itt K a) ds := by
  refine ⟨_, _, by rw [r.length]; exact walk_tup (xs := xs), fun ρ' H' k => q ρ' H' k, fun ρ' i H1 x H' d k e y => ?_⟩
  obtain ⟨v, h1, h2⟩ := r.get e
  obtain ⟨y1, y2⟩ := y
  rw [h1] at y2
  cases y2
  subst y1
  exact ⟨.inl rfl, h2.mo k⟩
theorem wk_str {z : Str} : Wk K ρ H (Its z) (z.cps.toList.map fun c => D.str ⟨#[c]⟩) := by
  refine ⟨_, _, by rw [List.length_map, Array.length_toList]; exact walk_str, fun _ _ _ => trivial, fun ρ' i H1 x H' d k e y => ?_⟩
  obtain ⟨y1, c, y2, y3⟩ := y
  subst y1 y3
  rw [List.getElem?_map, Array.getElem?_toList, y2] at e
  cases e
  exact ⟨.inl rfl, .str _⟩
theorem rl_key (k : Key) : Rl ρ K H (keyD k) (kV k) := by
  cases k with
  | inl i => exact .int i
  | inr s => exact .str s
theorem rls_keys : ∀ ks : List Key, Rls ρ K H (ks.map keyD) (ks.map kV)
  | [] => .nil
  | k :: ks => .cons (rl_key k) (rls_keys ks)
theorem zip_at {κ : Type} {ks : List κ} {vs : List V} {i : Nat} {k : κ} {v : V} (h : (ks.zip vs)[i]? = some (k, v)) : ks[i]? = some k := by
  rw [List.getElem?_zip_eq_some] at h
  exact h.1
theorem wk_keys {a : Addr} {o : Obj} {ks : List Key} {vs : List V} (q : H a = some (.frz o (.dK (ks.zip vs)))) (hl : ks.length = vs.length) : Wk K ρ H (Itk a o (ks.zip vs)) (ks.map keyD) := by
  refine ⟨_, _, by rw [show (ks.map keyD).length = (ks.zip vs).length by simp [hl]]; exact walk_keys, fun ρ' H' k => k.frz _ _ _ q, fun ρ' i H1 x H' d k e y => ?_⟩
  obtain ⟨y1, kk, v, y2, y3⟩ := y
  subst y1 y3
  rw [List.getElem?_map, zip_at y2] at e
  cases e
  exact ⟨.inl rfl, rl_key kk⟩
theorem wk_keysT {a : Addr} {o : Obj} {ks : List (List Key)} {vs : List V} (q : H a = some (.frz o (.dT (ks.zip vs)))) (hl : ks.length = vs.length) : Wk K ρ H (Itkt a o (ks.zip vs)) (ks.map tkD) := by
  refine ⟨_, _, by rw [show (ks.map tkD).length = (ks.zip vs).length by simp [hl]]; exact walk_keysT, fun ρ' H' k => k.frz _ _ _ q, fun ρ' i H1 x H' d k e y => ?_⟩
  obtain ⟨y1, kk, v, ad, y2, y3, y4⟩ := y
  subst y1 y3
  rw [List.getElem?_map, zip_at y2] at e
  cases e
  exact ⟨.inl rfl, .tup y4 (rls_keys kk)⟩
theorem rangeD_get {lo : Int} : ∀ {n i : Nat} {d : D}, (rangeD lo n)[i]? = some d → d = .int (lo + (i : Nat)) := by
  intro n
  induction n generalizing lo with
  | zero => intro i d e; simp [rangeD] at e
  | succ n ih =>
    intro i d e
    cases i with
    | zero => simp [rangeD] at e; subst e; simp
    | succ i =>
      simp only [rangeD, List.getElem?_cons_succ] at e
      rw [ih e]
      congr 1
      omega
theorem rangeD_length {lo : Int} : ∀ {n : Nat}, (rangeD lo n).length = n := by
  intro n
  induction n generalizing lo with
  | zero => rfl
  | succ n ih => simp [rangeD, ih]
theorem wk_range {lo : Int} {n : Nat} : Wk K ρ H (Itr lo n) (rangeD lo n) := by
  refine ⟨_, _, by rw [rangeD_length]; exact walk_range, fun _ _ _ => trivial, fun ρ' i H1 x H' d k e y => ?_⟩
  obtain ⟨y1, y2⟩ := y
  subst y1 y2
  rw [rangeD_get e]
  exact ⟨.inl rfl, .int _⟩
theorem enumD_get : ∀ {xs : List D} {j i : Nat} {d : D}, (enumD j xs)[i]? = some d → ∃ x, xs[i]? = some x ∧ d = .tup [.int ((j + i : Nat) : Int), x]
  | [], _, _, _, e => by simp [enumD] at e
  | x :: xs, j, 0, d, e => by simp [enumD] at e; subst e; exact ⟨x, rfl, by simp⟩
  | x :: xs, j, i + 1, d, e => by
    simp only [enumD, List.getElem?_cons_succ] at e
    obtain ⟨y, h1, h2⟩ := enumD_get e
    refine ⟨y, by simpa using h1, ?_⟩
    rw [h2, show j + 1 + i = j + (i + 1) by omega]
theorem enumD_length : ∀ {xs : List D} {j : Nat}, (enumD j xs).length = xs.length
  | [], _ => rfl
  | x :: xs, j => by simp [enumD, enumD_length]
theorem walk_enumT {a : Addr} {xs : List V} : Walk (Itet K a) xs.length (fun H => SqT K H a xs) (YPair (fun i => some (.int (i : Nat))) (fun i => xs[i]?)) := by
  refine ⟨fun i _ hi q => ⟨xs, xs[i], q, by simp [hi]⟩, fun _ q => ⟨xs, q, rfl⟩, fun i H v H' _ q y => ?_⟩
  obtain ⟨T, x, h1, h2, h3, h4⟩ := y
  exact ⟨T, .int (i : Nat), x, h1, h2, h3, rfl, h4 xs q⟩
theorem enum_pair {xs : List V} {ds : List D} {i : Nat} {H1 : Hp} {x : V} {H' : Hp} {d : D} {ρ' : Ro} (r : Rls ρ' K H1 ds xs) (e : (enumD 0 ds)[i]? = some d) (y : YPair (fun i => some (.int (i : Nat))) (fun i => xs[i]?) i H1 x H') :
    (H' = H1 ∨ ∃ T u, H1 T = none ∧ H' = upd H1 T (.tup u)) ∧ Rl ρ' K H' d x := by
  obtain ⟨T, a, b, y1, y2, y3, y4, y5⟩ := y
  obtain ⟨z, z1, z2⟩ := enumD_get e
  obtain ⟨v, v1, v2⟩ := r.get z1
  dsimp only at y4 y5
  rw [v1] at y5
  cases y5
  cases y4
  subst y1 y3
  rw [z2, Nat.zero_add]
  exact ⟨.inr ⟨T, _, y2, rfl⟩, .tup upd_same (.cons (.int _) (.cons (v2.mono (.new (ρ := ρ') y2)) .nil))⟩
theorem wk_enumL {a : Addr} {xs : List V} {ds : List D} (q : FzL K H a xs) (r : Rls ρ K H ds xs) : Wk K ρ H (Ite K a) (enumD 0 ds) := by
  refine ⟨_, _, by rw [enumD_length, r.length]; exact walk_enum (xs := xs), fun ρ' H' k => ?_, fun ρ' i H1 x H' d k e y => enum_pair (r.mo k) e y⟩
  exact (q.mo k).sq
theorem wk_enumT {a : Addr} {xs : List V} {ds : List D} (q : ∀ ρ' H', Mo ρ ρ' H H' → SqT K H' a xs) (r : Rls ρ K H ds xs) : Wk K ρ H (Itet K a) (enumD 0 ds) :=
  ⟨_, _, by rw [enumD_length, r.length]; exact walk_enumT (xs := xs), fun ρ' H' k => q ρ' H' k, fun ρ' i H1 x H' d k e y => enum_pair (r.mo k) e y⟩
end
section
variable {X : Cx} {e a b tg : Expr} {ea eb : Sig → IH → R D} {pos p : Pos}
/-- freezing behind an expression -/
theorem s_fz (he : PE X e (tE X.K ea)) : PE X e (tE X.K fun σ h => (ea σ h).bd fun x h => freeze x h) :=
  PE.imp (PE.fzA he) fun σ H Q ⟨ρ, h, σI, S, L, p⟩ => rd_mono (stp (Rv := RvE X.K) S L p) fun v H1 ⟨ρ1, x, h1, k1, S1, L1, r1, p1⟩ => freeze_ok S1 r1 p1
theorem i_val (he : PE X e (tE X.K ea)) : PI X tg e (iI X.K fun σ h => ((ea σ h).bd fun x h => freeze x h).bd fun y h => itemsOf y h) := by
  have hz := s_fz he
  refine ⟨fun pins s σ H R I ⟨ρ, h, σI, S, L, p⟩ => thn (hz.run pins s σ H _ I (stp (Rv := RvE X.K) S L p)) fun v s1 ⟨x, H1, I1, rv, ρ1, d, h1, k1, S1, L1, r, q⟩ => ?_⟩
  have rest : ∀ {ds : List D} {J : It}, itemsOf d h1 = .ok ds h1 → Wk X.K ρ1 H1 J ds → R J H1 := fun ei w => by
    rw [ei] at q
    exact q ρ1 H1 _ (.refl ρ1 H1) S1 w
  cases r with
  | str z =>
    obtain ⟨t, rfl⟩ := rv
    have qq := rest rfl (wk_str (z := z))
    cases ha : z.cps.all (· < 128)
    · exact wpAny_pyIter_wide ha (pi_one (tk := s1.toks) I1 _ (turn_str _ z t "str_iterator" (.inr rfl)) ⟨_, Heap.get?_push_size _ rfl, rfl, rfl⟩ qq)
    · exact wpAny_pyIter_ascii ha (pi_one (tk := s1.toks) I1 _ (turn_str _ z t "str_ascii_iterator" (.inl rfl)) ⟨_, Heap.get?_push_size _ rfl, rfl, rfl⟩ qq)
  | tup hq rs =>
    rename_i ad vs ds
    obtain rfl : v = .ref ad := rv
    obtain ⟨its, r1, ht, _⟩ := I1.tuple (.of hq)
    exact wpAny_pyIter_tuple (show s1.heap.IsTuple ad its.toArray from ht) (pi_one (tk := s1.toks) I1 _ (turn_tuple ad _) ⟨_, Heap.get?_push_size _ rfl, rfl, rfl⟩ (rest rfl (wk_tup (fun ρ' H' k => .of (k.tup _ _ hq)) rs)))
  | gt hq rs =>
    rename_i ad vs ds
    obtain rfl : v = .ref ad := rv
    obtain ⟨its, r1, ht, _⟩ := I1.tuple (.inr hq)
    exact wpAny_pyIter_tuple (show s1.heap.IsTuple ad its.toArray from ht) (pi_one (tk := s1.toks) I1 _ (turn_tuple ad _) ⟨_, Heap.get?_push_size _ rfl, rfl, rfl⟩ (rest rfl (wk_tup (fun ρ' H' k => .inr hq) rs)))
  | lst hq rs =>
    rename_i ad vs ds
    obtain rfl : v = .ref ad := rv
    obtain ⟨its, r1, hl, _⟩ := I1.list hq.sq
    exact wpAny_pyIter_list hl.isList (pi_one (tk := s1.toks) I1 _ (turn_list ad _) ⟨_, Heap.get?_push_size _ rfl, rfl, rfl⟩ (rest rfl (wk_list hq rs)))
  | dK hq hl rs =>
    rename_i ad o ks vs ds
    obtain rfl : v = .ref ad := rv
    obtain ⟨hs, hgd, hx, es, ep, us, hdt, hsz, kv, hm⟩ := I1.frzK hq
    refine iter_keys hs hgd hx hdt (pi_one (tk := s1.toks) I1 _ (turn_keys _ hdt) ⟨_, Heap.get?_push_size _ rfl, rfl, ?_⟩ (rest rfl (wk_keys hq hl)))
    rw [hsz] <;> rfl
  | dT hq hl rs =>
    rename_i ad o ks vs ds
    obtain rfl : v = .ref ad := rv
    obtain ⟨hs, hgd, hx, es, ep, hdt, hsz, ent⟩ := I1.frzT hq
    refine iter_keys hs hgd hx hdt (pi_one (tk := s1.toks) I1 _ (turn_keysT _ hdt) ⟨_, Heap.get?_push_size _ rfl, rfl, ?_⟩ (rest rfl (wk_keysT hq hl)))
    rw [hsz] <;> rfl
  | _ => exact q.elim
theorem i_rng1 {x : Str} (hx : x = "range") (hg : Gl X x) (hm : X.mg x = none) (ha : PE X a (tE X.K ea)) (h1 : noStar a = true) :
    PI X tg (.Call (.Name x p) [a] [] pos) (iI X.K fun σ h => ((ea σ h).bd fun x h => (R.ok [] h).bd fun xs h => .ok (x :: xs) h).bd fun xs h => match xs with | [x] => range1 x h | _ => .bad) := by
  subst hx
  refine PI.imp (pi_range1 hg hm (s_cons ha s_nil (star_cons h1)) (star_cons h1)) fun σ H R ⟨ρ, h, σI, S, L, p⟩ => ?_
  refine rd_mono (stp (Rv := RvA X.K) S L p) fun v1 H1 ⟨ρ1, xs, h1, k1, S1, L1, r1, p1⟩ => ?_
  match xs, r1, p1 with
  | [d], r1, p1 =>
    obtain ⟨v, rfl, r⟩ := Rls.inv1 r1
    cases r with
    | int j =>
      simp only [range1] at p1
      by_cases hc : -(2 ^ 62) ≤ j ∧ j < 2 ^ 62
      · rw [if_pos hc] at p1
        exact ⟨j, rfl, hc.1, hc.2, p1 ρ1 H1 _ (.refl ρ1 H1) S1 wk_range⟩
      · rw [if_neg hc] at p1; exact p1.elim
    | _ => exact p1.elim
  | [], _, p1 => exact p1.elim
  | _ :: _ :: _, _, p1 => exact p1.elim
theorem i_rng2 {x : Str} (hx : x = "range") (hg : Gl X x) (hm : X.mg x = none) (ha : PE X a (tE X.K ea)) (hb : PE X b (tE X.K eb)) (h1 : noStar a = true) (h2 : noStar b = true) :
    PI X tg (.Call (.Name x p) [a, b] [] pos) (iI X.K fun σ h => ((ea σ h).bd fun x h => ((eb σ h).bd fun y h => (R.ok [] h).bd fun xs h => .ok (y :: xs) h).bd fun xs h => .ok (x :: xs) h).bd fun xs h => match xs with | [x, y] => range2 x y h | _ => .bad) := by
  subst hx
  refine PI.imp (pi_range2 hg hm (s_cons ha (s_cons hb s_nil (star_cons h2)) (star_cons h1)) (by rw [star_cons h1, star_cons h2]; rfl) (star_cons h2)) fun σ H R ⟨ρ, h, σI, S, L, p⟩ => ?_
  refine rd_mono (stp (Rv := RvA X.K) S L p) fun v1 H1 ⟨ρ1, xs, h1, k1, S1, L1, r1, p1⟩ => ?_
  match xs, r1, p1 with
  | [d, e], r1, p1 =>
    obtain ⟨v, w, rfl, r, r'⟩ := Rls.inv2 r1
    cases r with
    | int i =>
      cases r' with
      | int j =>
        simp only [range2] at p1
        by_cases hc : -(2 ^ 62) ≤ i ∧ i < 2 ^ 62 ∧ -(2 ^ 62) ≤ j ∧ j < 2 ^ 62
        · rw [if_pos hc] at p1
          exact ⟨i, j, rfl, hc, p1 ρ1 H1 _ (.refl ρ1 H1) S1 wk_range⟩
        · rw [if_neg hc] at p1; exact p1.elim
      | _ => exact p1.elim
    | _ => exact p1.elim
  | [], _, p1 => exact p1.elim
  | [_], _, p1 => exact p1.elim
  | _ :: _ :: _ :: _, _, p1 => exact p1.elim
theorem i_enm {x : Str} {elts : List Expr} {kk : Nat} {tpos : Pos} (hx : x = "enumerate") (hg : Gl X x) (hm : X.mg x = none) (ha : PE X a (tE X.K ea)) (h1 : noStar a = true) :
    PI X (.Tuple elts kk tpos) (.Call (.Name x p) [a] [] pos) (iI X.K fun σ h => ((ea σ h).bd fun x h => freeze x h).bd fun y h => seqItems y h) := by
  subst hx
  have hz := pa_cons (s_fz ha) pa_nil (star_cons h1)
  refine ⟨fun pins s σ H R I ⟨ρ, h, σI, S, L, p⟩ => ?_⟩
  have st : tCons (tE X.K fun σ h => (ea σ h).bd fun x h => freeze x h) tNil σ H (fun vs H1 => ∃ v ρ1 d h1, vs = [v] ∧ SR ρ1 X.K h1 H1 ∧ Rl ρ1 X.K H1 d v ∧ Post (RvI X.K) X.K ρ1 H1 R (seqItems d h1)) :=
    rd_mono (stp (Rv := RvE X.K) S L p) fun v H1 ⟨ρ1, x, h1, k1, S1, L1, r1, p1⟩ => ⟨v, ρ1, x, h1, rfl, S1, r1, p1⟩
  refine Call_ (ld_blt I hg hm boot_enumerate (PyProof.Rows.callWith_type1 (thn (hz.run pos pins s σ H _ I st) fun us s1 ⟨vs, H1, I1, rvs, v, ρ1, d, h1, ev, S1, r, q⟩ => ?_) (star_cons h1) rfl))
  subst ev
  obtain ⟨u, rfl, ru⟩ := vals1 rvs
  have rest : ∀ {ds : List D} {J : It}, seqItems d h1 = .ok ds h1 → Wk X.K ρ1 H1 J ds → R J H1 := fun ei w => by
    rw [ei] at q
    exact q ρ1 H1 _ (.refl ρ1 H1) S1 w
  have two_ok : ∀ b ∈ [s1.heap.objs.size + 1, s1.heap.objs.size], FpOk X pins H1 b := fun b hb => by
    have hle : s1.heap.objs.size ≤ b := by
      rcases (show b = s1.heap.objs.size + 1 ∨ b = s1.heap.objs.size by simpa using hb) with z | z <;> omega
    exact I1.fpOk hle (I1.hok.fresh hle)
  have tup : ∀ {ad : Addr} {vs : List V} {ds : List D}, u = .ref ad → (∀ ρ' H', Mo ρ1 ρ' H1 H' → SqT X.K H' ad vs) → Rls ρ1 X.K H1 ds vs → seqItems d h1 = .ok (enumD 0 ds) h1 →
      wpAny (model X.prog X.w) X.A (call (.type "enumerate") [u]) (fun r s' => wpAny (model X.prog X.w) X.A (pyIter r) (PIE X pins σ (.Tuple elts kk tpos) R) X.xe s') X.xe s1 := by
    intro ad vs ds eu hq rs ei
    subst eu
    obtain ⟨its, r1, ht, _⟩ := I1.tuple (hq ρ1 H1 (Stp.refl ρ1 H1).mo)
    refine vi_call_enum (show s1.heap.IsTuple ad its.toArray from ht) fun h' he hit hk => wpAny_pyIter_enum he ?_
    exact ⟨s1.heap.objs.size + 1, [s1.heap.objs.size + 1, s1.heap.objs.size], _, _, H1, rfl, I1.kept (t' := s1.toks) hk, turn_enumT ad (s1.heap.objs.size + 1) s1.heap.objs.size, ⟨⟨.none, he⟩, hit, Nat.succ_ne_self _⟩, two_ok, rest ei (wk_enumT hq rs)⟩
  cases r with
  | tup hq rs => exact tup ru (fun ρ' H' k => .of (k.tup _ _ hq)) rs rfl
  | gt hq rs => exact tup ru (fun ρ' H' k => .inr hq) rs rfl
  | lst hq rs =>
    rename_i ad vs ds
    obtain rfl : u = .ref ad := ru
    obtain ⟨its, r1, hl, _⟩ := I1.list hq.sq
    refine call_enumerate_list hl.isList fun h' he hit hsz hk => wpAny_pyIter_enum he ?_
    exact ⟨s1.heap.objs.size + 1, [s1.heap.objs.size + 1, s1.heap.objs.size], _, _, H1, rfl, I1.kept (t' := s1.toks) hk, turn_enum ad (s1.heap.objs.size + 1) s1.heap.objs.size, ⟨⟨.none, he⟩, hit, Nat.succ_ne_self _⟩, two_ok, rest rfl (wk_enumL hq rs)⟩
  | _ => exact q.elim
end
end VI

/-! VIl: list comprehensions. -/
namespace VI
open PySem PySem.Spec PyProof.Rows L2

/-- a walk's bookkeeping: an invariant by the turn -/
theorem walk_W {J : It} {n : Nat} {G : Hp → Prop} {Y : Nat → Hp → V → Hp → Prop} (w : Walk J n G Y) {B : (Hp → Prop) → V → Hp → Prop} {H0 : Hp} {Qd : Hp → Prop} (Pv : Nat → Hp → Prop) (h0 : Pv 0 H0) (hG : ∀ i H, i ≤ n → Pv i H → G H)
    (hs : ∀ i x H H', i < n → Pv i H → Y i H x H' → B (Pv (i + 1)) x H') (hd : ∀ H, Pv n H → Qd H) :
    ∃ W : Nat → Nat → Hp → Prop, (∃ m, W 0 m H0) ∧ ∀ i m H, W i m H → (J.stop i H ∧ Qd H) ∨ (J.go i H ∧ ∃ Nx : Hp → Prop, (∀ H', Nx H' → ∃ m', m' < m ∧ W (i + 1) m' H') ∧ ∀ x H', J.yld i H x H' → B Nx x H') := by
  refine ⟨fun i m H => m = n - i ∧ i ≤ n ∧ Pv i H, ⟨n, (Nat.sub_zero n).symm, Nat.zero_le _, h0⟩, fun i m H hw => ?_⟩
  obtain ⟨e, hi, pv⟩ := hw
  subst e
  have g := hG i H hi pv
  rcases Nat.lt_or_ge i n with lt | ge
  · exact .inr ⟨w.goes i H lt g, Pv (i + 1), fun H' z => ⟨n - (i + 1), by omega, rfl, lt, z⟩, fun x H' y => hs i x H H' lt pv (w.yields i H x H' lt g y)⟩
  · have ei : i = n := by omega
    subst ei
    exact .inl ⟨w.stops H g, hd H pv⟩
theorem only_wipe (σ : L2.St) (vs : List Nat) : Only vs σ (wipe σ vs) := ⟨wipe_length σ vs, fun i h => wipe_out h⟩
theorem wipe_twice (σ : L2.St) (vs : List Nat) : wipe (wipe σ vs) vs = wipe σ vs := (only_wipe σ vs).wipe
section
variable {K : Fg} {ρ ρ' : Ro} {H H' : Hp} {h h' : IH} {Q : VK} {D0 : Addr} {acc : List D} {vs : List V}
/-- a list that stands there becomes the interpreter's -/
theorem SR.adopt (S : SR ρ K h H) {u : HO} {ob : Ob} (hD : H D0 = some u) (n : ∀ k, ρ k ≠ some D0) (x : ObR ρ K H D0 ob) : SR (ext ρ h.n D0) K (h.push ob) H := by
  have l := S.le_ext D0
  have m : Mo ρ (ext ρ h.n D0) H H := ⟨l, fun _ _ e => e, fun _ _ _ e => e⟩
  refine ⟨fun j q e => ?_, fun j a e => ?_, fun i j a e1 e2 => ?_, fun j hj => ?_⟩
  · rw [get_push] at e
    by_cases hj : j = h.n
    · rw [if_pos hj] at e; cases e
      exact ⟨D0, by unfold ext; rw [if_pos hj], x.mono m rfl⟩
    · rw [if_neg hj] at e
      obtain ⟨a, r, y⟩ := S.obj j q e
      exact ⟨a, l _ _ r, y.mono m rfl⟩
  · unfold ext at e
    by_cases hj : j = h.n
    · rw [if_pos hj] at e; cases e; exact ⟨u, hD⟩
    · rw [if_neg hj] at e; exact S.trk j a e
  · unfold ext at e1 e2
    by_cases h1 : i = h.n <;> by_cases h2 : j = h.n
    · rw [h1, h2]
    · rw [if_pos h1] at e1; rw [if_neg h2] at e2; cases e1; exact absurd e2 (n j)
    · rw [if_neg h1] at e1; rw [if_pos h2] at e2; cases e2; exact absurd e1 (n i)
    · rw [if_neg h1] at e1; rw [if_neg h2] at e2; exact S.inj i j a e1 e2
  · have hj' : h.n + 1 ≤ j := hj
    unfold ext
    rw [if_neg (by omega)]
    exact S.top j (by omega)
/-- the end of a comprehension -/
theorem fin_L {m : Bool} (k : Stp ρ ρ' H H') (S : SR ρ' K h' H') (hD : H D0 = none) (hv : H' D0 = some (.lst vs)) (r : Rls ρ' K H' acc vs) (n : ∀ j, ρ' j ≠ some D0) (p : Post (RvE K) K ρ H Q (mkL m acc h')) :
    (if m = true then Q (.ref D0) H' else FzQ Q (.ref D0) H') := by
  unfold mkL at p
  by_cases hz : acc.length ≤ sizeLine
  · rw [if_pos hz] at p
    cases m with
    | true =>
      rw [if_pos rfl] at p ⊢
      have l := S.le_ext D0
      refine p (ext ρ' h'.n D0) H' _ ⟨fun i a z => l _ _ (k.le i a z), fun i a z => ?_, k.tup, k.frz, k.oth, k.gr⟩ (S.adopt hv n ⟨vs, hv, r⟩) (.ref (by unfold ext; rw [if_pos rfl]))
      unfold ext at z
      by_cases hi : i = h'.n
      · rw [if_pos hi] at z; cases z; exact .inr hD
      · rw [if_neg hi] at z; exact k.nw i a z
    | false =>
      rw [if_neg Bool.false_ne_true] at p ⊢
      have mu : Mut (H' D0) := by rw [hv]; trivial
      exact ⟨D0, vs, rfl, hv, fun o => p ρ' _ _ (k.off hD) (S.off n mu) (.lst (.inl ⟨o, upd_same⟩) (r.mo (.off mu)))⟩
  · rw [if_neg hz] at p; exact p.elim
end
theorem drop_cons {α : Type} {xs : List α} {i : Nat} (h : i < xs.length) : ∃ d, xs[i]? = some d ∧ xs.drop i = d :: xs.drop (i + 1) :=
  ⟨xs[i], by simp [h], by rw [List.drop_eq_getElem_cons h]⟩
/-- the state of a comprehension's accumulation: Hs, ρs the state when the list was laid -/
structure Acc (K : Fg) (ρs : Ro) (Hs : Hp) (D0 : Addr) (ρ : Ro) (h : IH) (H : Hp) (acc : List D) : Prop where
  k : Stp ρs ρ Hs H
  S : SR ρ K h H
  av : ∀ j, ρ j ≠ some D0
  at_ : ∃ vs, H D0 = some (.lst vs) ∧ Rls ρ K H acc vs
section
variable {K : Fg} {ρs ρ ρ' : Ro} {Hs H H' : Hp} {h h' : IH} {D0 : Addr} {acc : List D}
theorem Acc.go (a : Acc K ρs Hs D0 ρ h H acc) (k : Stp ρ ρ' H H') (S : SR ρ' K h' H') : Acc K ρs Hs D0 ρ' h' H' acc := by
  obtain ⟨vs, e, r⟩ := a.at_
  exact ⟨a.k.trans k, S, k.away e a.av, vs, k.oth _ _ e a.av, r.mono k⟩
theorem Acc.yld (a : Acc K ρs Hs D0 ρ h H acc) (e : H' = H ∨ ∃ T u, H T = none ∧ H' = upd H T (.tup u)) : Acc K ρs Hs D0 ρ h H' acc ∧ Stp ρ ρ H H' := by
  rcases e with e | ⟨T, u, hT, e⟩
  · subst e; exact ⟨a, .refl _ _⟩
  · subst e; exact ⟨a.go (.new hT) (a.S.new hT), .new hT⟩
theorem Acc.add {y : D} {v : V} (a : Acc K ρs Hs D0 ρ h H acc) (hD : Hs D0 = none) (r : Rl ρ K H y v) (hz : acc.length < sizeLine) :
    ∃ vs, H D0 = some (.lst vs) ∧ vs.length < sizeLine ∧ Acc K ρs Hs D0 ρ h (upd H D0 (.lst (vs ++ [v]))) (acc ++ [y]) := by
  obtain ⟨vs, e, rs⟩ := a.at_
  have mu : Mut (H D0) := by rw [e]; trivial
  refine ⟨vs, e, by rw [← rs.length]; exact hz, a.k.off hD, a.S.off a.av mu, a.av, _, upd_same, ?_⟩
  exact (rs.append (.one r)).mo (.off mu)
theorem Acc.start (S : SR ρ K h H) (hD : H D0 = none) : Acc K ρ H D0 ρ h (upd H D0 (.lst [])) [] := ⟨.new hD, S.new hD, S.away hD, [], upd_same, .nil⟩
end
section
variable {X : Cx} {elt tg iter : Expr} {ifs : List Expr} {scope : Scope} {own : List (Str × Nat)} {pos : Pos} {t : Tgt} {es : Sig → IH → R (List D)} {ee : Sig → IH → R D} {ec : Sig → IH → R Bool} {m : Bool}
theorem Mo.trans {ρ ρ1 ρ2 : Ro} {H H1 H2 : Hp} (a : Mo ρ ρ1 H H1) (b : Mo ρ1 ρ2 H1 H2) : Mo ρ ρ2 H H2 := ⟨fun k c z => b.le _ _ (a.le _ _ z), fun c xs e => b.tup c xs (a.tup c xs e), fun c o u e => b.frz c o u (a.frz c o u e)⟩
theorem SlR.mo {ρ ρ' : Ro} {K : Fg} {H H' : Hp} {σI : Sig} {σ : L2.St} (s : SlR ρ K H σI σ) (k : Mo ρ ρ' H H') : SlR ρ' K H' σI σ :=
  ⟨s.len, fun i d e => let ⟨v, h1, h2⟩ := s.at_ i d e; ⟨v, h1, h2.mo k⟩⟩
/-- one turn's work: a target, a test, an element -/
def stepL (t : Tgt) (vs : List Nat) (ec : Sig → IH → R Bool) (ee : Sig → IH → R D) (σ : Sig) : D → List D → IH → R (List D) := fun x acc h => match asgT t x (wipeI σ vs) with
  | none => .bad
  | some σ2 => (ec σ2 h).bd fun d h => match d with
    | true => (ee σ2 h).bd fun y h => if acc.length < sizeLine then .ok (acc ++ [y]) h else .bad
    | false => .ok acc h
/-- what a turn is asked, and how it is met -/
theorem turn_L {K : Fg} {ρs ρ : Ro} {Hs H' : Hp} {h : IH} {D0 : Addr} {acc : List D} {x : V} {d : D} {σI : Sig} {σ : L2.St} {vs : List Nat} {β : Type} {F : List D → IH → R β} {P : R β → Prop} {Nx : Hp → Prop}
    (hP : ¬ P .bad) (hD : Hs D0 = none) (a : Acc K ρs Hs D0 ρ h H' acc) (L : SlR ρ K H' σI σ) (r : Rl ρ K H' d x) (ht : ∀ i ∈ slotsT t, i ∈ vs)
    (p : P ((stepL t vs ec ee σI d acc h).bd F)) (nx : ∀ ρ' h' H2 acc', Acc K ρs Hs D0 ρ' h' H2 acc' → Mo ρ ρ' H' H2 → P (F acc' h') → Nx H2) :
    rG K t x (wipe σ vs) H' fun σ2 H2 => wipe σ2 vs = wipe σ vs ∧ tT K ec σ2 H2 fun b H3 => if b = true then tE K ee σ2 H3 fun y H4 => ∃ acc, H4 D0 = some (.lst acc) ∧ acc.length < sizeLine ∧ Nx (upd H4 D0 (.lst (acc ++ [y]))) else Nx H3 := by
  unfold stepL at p
  cases ha : asgT t d (wipeI σI vs) with
  | none => rw [ha] at p; exact absurd p hP
  | some σ2I =>
    rw [ha] at p
    dsimp only at p
    refine ⟨ρ, wipeI σI vs, d, σ2I, L.wipe vs, r, ha, fun σ2 L2 on => ⟨?_, ρ, h, σ2I, a.S, L2, ?_⟩⟩
    · rw [(on.mono ht).wipe, wipe_twice]
    · cases hc : ec σ2I h with
      | bad => rw [hc] at p; exact absurd p hP
      | ok b h1 =>
        rw [hc] at p
        intro ρ1 H1 b' k1 S1 eb
        cases (show b = b' from eb)
        have a1 := a.go k1 S1
        cases b with
        | false => rw [if_neg Bool.false_ne_true]; exact nx ρ1 h1 H1 acc a1 k1.mo p
        | true =>
          rw [if_pos rfl]
          refine ⟨ρ1, h1, σ2I, S1, L2.mono k1, ?_⟩
          cases he : ee σ2I h1 with
          | bad => simp only [R.bd] at p; rw [he] at p; exact absurd p hP
          | ok y h2 =>
            simp only [R.bd] at p
            rw [he] at p
            intro ρ2 H2 v k2 S2 ry
            have a2 := a1.go k2 S2
            dsimp only at p
            by_cases hz : acc.length < sizeLine
            · rw [if_pos hz] at p
              obtain ⟨us, e1, e2, a3⟩ := a2.add hD ry hz
              exact ⟨us, e1, e2, nx ρ2 h2 _ _ a3 ((k1.mo.trans k2.mo).trans (.off (by rw [e1]; trivial))) p⟩
            · rw [if_neg hz] at p; exact absurd p hP
theorem lc1_core {K : Fg} {vs : List Nat} (ht : ∀ i ∈ slotsT t, i ∈ vs) : ∀ σ H Q, tE K (fun σ h => (es σ h).bd fun xs h => (turns (stepL t vs ec ee σ) xs [] h).bd fun ys h => mkL m ys h) σ H Q →
      tLc (iI K es) (rG K t) (tT K ec) (tE K ee) vs σ H (fun v H' => if m = true then Q v H' else FzQ Q v H') := by
    intro σ H Q ⟨ρ, h, σI, S, L, p⟩
    refine rd_mono (stp (Rv := RvI K) S L p) fun J H1 ⟨ρ1, xs, h1, k1, S1, L1, w, p1⟩ => fun D0 hD => ?_
    obtain ⟨G, Y, w, wG, wY⟩ := w
    refine walk_W w (B := fun Nx x H' => rG K t x (wipe σ vs) H' fun σ2 H2 => wipe σ2 vs = wipe σ vs ∧ tT K ec σ2 H2 fun b H3 =>
        if b = true then tE K ee σ2 H3 fun y H4 => ∃ acc, H4 D0 = some (.lst acc) ∧ acc.length < sizeLine ∧ Nx (upd H4 D0 (.lst (acc ++ [y]))) else Nx H3)
      (fun i H' => ∃ ρ' h' acc, Acc K ρ1 H1 D0 ρ' h' H' acc ∧ Post (RvE K) K ρ1 H1 Q ((turns (stepL t vs ec ee σI) (xs.drop i) acc h').bd fun ys h => mkL m ys h))
      ⟨ρ1, h1, [], .start S1 hD, p1⟩ (fun i H' _ ⟨ρ', h', acc, a, _⟩ => wG ρ' H' a.k.mo) ?_ ?_
    · rintro i x H2 H' hlt ⟨ρ', h', acc, a, pp⟩ y
      obtain ⟨d, hd, ed⟩ := drop_cons hlt
      obtain ⟨hy, rx⟩ := wY ρ' i H2 x H' d a.k.mo hd y
      obtain ⟨a2, k2⟩ := a.yld hy
      rw [ed] at pp
      refine turn_L (P := fun r => Post (RvE K) K ρ1 H1 Q r) (F := fun acc h => (turns (stepL t vs ec ee σI) (xs.drop (i + 1)) acc h).bd fun ys h => mkL m ys h) (fun z => z) hD a2 (L1.mono a2.k) rx ht ?_ fun ρ3 h3 H3 acc3 a3 _ p3 => ⟨ρ3, h3, acc3, a3, p3⟩
      simp only [turns] at pp
      cases hst : stepL t vs ec ee σI d acc h' with
      | bad => rw [hst] at pp; exact pp
      | ok acc' h'' => rw [hst] at pp; exact pp
    · rintro H' ⟨ρ', h', acc, a, pp⟩
      rw [List.drop_length] at pp
      obtain ⟨us, e, r⟩ := a.at_
      exact fin_L a.k a.S hD e r a.av pp
theorem s_lc1 (hc : X.calm = true) (hN : X.N.Nodup) (hi : PI X tg iter (iI X.K es)) (ok : BlkOk X.N X.env.scope scope own) (ht : ∀ i ∈ slotsT t, i ∈ own.map (·.2))
    (hg : ∀ (s : Shared) (H : Hp) (C : Addr) (cl : List (Str × Addr)) (fp : List Addr), PG (X.blk s H scope (compEnvC scope cl C X.env) fp) tg (rG X.K t))
    (hts : ∀ (s : Shared) (H : Hp) (C : Addr) (cl : List (Str × Addr)) (fp : List Addr), PTs (X.blk s H scope (compEnvC scope cl C X.env) fp) ifs (tT X.K ec))
    (he : ∀ (s : Shared) (H : Hp) (C : Addr) (cl : List (Str × Addr)) (fp : List Addr), PE (X.blk s H scope (compEnvC scope cl C X.env) fp) elt (tE X.K ee)) (hs : ∀ x, foldedSetIterable iter X.env x = pure x) :
    PE X (.ListComp elt [⟨tg, iter, ifs, 0⟩] scope pos) (tE X.K fun σ h => (es σ h).bd fun xs h => (turns (stepL t (own.map (·.2)) ec ee σ) xs [] h).bd fun ys h => mkL m ys h) := by
  have core := lc1_core (K := X.K) (es := es) (ec := ec) (ee := ee) (m := m) ht
  have base := pe_lc (g := rG X.K t) (tt := tT X.K ec) (te := tE X.K ee) (pos := pos) hc hN hi ok hg hts he hs
  cases m with
  | true => exact PE.imp base fun σ H Q z => by simpa using core σ H Q z
  | false => exact PE.imp (PE.fz base) fun σ H Q z => by simpa using core σ H Q z
variable {tg1 iter1 : Expr} {ifs1 : List Expr} {t1 : Tgt} {es1 : Sig → IH → R (List D)} {ec1 : Sig → IH → R Bool} {vs1 : List Nat}
/-- a turn of the outer clause -/
def stepL2 (t : Tgt) (vs : List Nat) (ec : Sig → IH → R Bool) (es1 : Sig → IH → R (List D)) (t1 : Tgt) (vs1 : List Nat) (ec1 : Sig → IH → R Bool) (ee : Sig → IH → R D) (σ : Sig) : D → List D → IH → R (List D) := fun x acc h => match asgT t x (wipeI σ vs) with
  | none => .bad
  | some σ2 => (ec σ2 h).bd fun d h => match d with
    | true => (es1 σ2 h).bd fun zs h => turns (stepL t1 vs1 ec1 ee σ2) zs acc h
    | false => .ok acc h
theorem turn_L2 {K : Fg} {ρs ρ : Ro} {Hs H' : Hp} {h : IH} {D0 : Addr} {acc : List D} {x : V} {d : D} {σI : Sig} {σ : L2.St} {vs : List Nat} {β : Type} {F : List D → IH → R β} {P : R β → Prop} {Nx : Hp → Prop}
    (hP : ¬ P .bad) (hD : Hs D0 = none) (a : Acc K ρs Hs D0 ρ h H' acc) (L : SlR ρ K H' σI σ) (r : Rl ρ K H' d x) (ht : ∀ i ∈ slotsT t, i ∈ vs) (ht1 : ∀ i ∈ slotsT t1, i ∈ vs1)
    (p : P ((stepL2 t vs ec es1 t1 vs1 ec1 ee σI d acc h).bd F)) (nx : ∀ ρ' h' H' acc', Acc K ρs Hs D0 ρ' h' H' acc' → P (F acc' h') → Nx H') :
    rG K t x (wipe σ vs) H' fun σ2 H2 => wipe σ2 vs = wipe σ vs ∧ tT K ec σ2 H2 fun b H3 => if b = true then iI K es1 σ2 H3 fun J1 H4 => ∃ W1 : Nat → Nat → Hp → Prop, (∃ m, W1 0 m H4) ∧ ∀ j k H, W1 j k H →
        (J1.stop j H ∧ Nx H) ∨ (J1.go j H ∧ ∃ Nx1 : Hp → Prop, (∀ H', Nx1 H' → ∃ k', k' < k ∧ W1 (j + 1) k' H') ∧ ∀ x H', J1.yld j H x H' → rG K t1 x (wipe σ2 vs1) H' fun σ3 H5 => wipe σ3 vs1 = wipe σ2 vs1 ∧ tT K ec1 σ3 H5 fun b H6 =>
          if b = true then tE K ee σ3 H6 fun y H7 => ∃ acc, H7 D0 = some (.lst acc) ∧ acc.length < sizeLine ∧ Nx1 (upd H7 D0 (.lst (acc ++ [y]))) else Nx1 H6)
      else Nx H3 := by
  unfold stepL2 at p
  cases ha : asgT t d (wipeI σI vs) with
  | none => rw [ha] at p; exact absurd p hP
  | some σ2I =>
    rw [ha] at p
    dsimp only at p
    refine ⟨ρ, wipeI σI vs, d, σ2I, L.wipe vs, r, ha, fun σ2 L2 on => ⟨?_, ρ, h, σ2I, a.S, L2, ?_⟩⟩
    · rw [(on.mono ht).wipe, wipe_twice]
    · cases hc : ec σ2I h with
      | bad => rw [hc] at p; exact absurd p hP
      | ok b h1 =>
        rw [hc] at p
        intro ρ1 H1 b' k1 S1 eb
        cases (show b = b' from eb)
        have a1 := a.go k1 S1
        cases b with
        | false => rw [if_neg Bool.false_ne_true]; exact nx ρ1 h1 H1 acc a1 p
        | true =>
          rw [if_pos rfl]
          refine ⟨ρ1, h1, σ2I, S1, L2.mono k1, ?_⟩
          cases he : es1 σ2I h1 with
          | bad => simp only [R.bd] at p; rw [he] at p; exact absurd p hP
          | ok zs h2 =>
            simp only [R.bd] at p
            rw [he] at p
            intro ρ2 H2 J1 k2 S2 w
            have a2 := a1.go k2 S2
            have L3 := (L2.mono k1).mono k2
            obtain ⟨G, Y, w, wG, wY⟩ := w
            refine walk_W w (B := fun Nx1 x H' => rG K t1 x (wipe σ2 vs1) H' fun σ3 H5 => wipe σ3 vs1 = wipe σ2 vs1 ∧ tT K ec1 σ3 H5 fun b H6 =>
                if b = true then tE K ee σ3 H6 fun y H7 => ∃ acc, H7 D0 = some (.lst acc) ∧ acc.length < sizeLine ∧ Nx1 (upd H7 D0 (.lst (acc ++ [y]))) else Nx1 H6)
              (fun j H' => ∃ ρ' h' acc', Acc K ρs Hs D0 ρ' h' H' acc' ∧ SlR ρ' K H' σ2I σ2 ∧ Mo ρ2 ρ' H2 H' ∧ P ((turns (stepL t1 vs1 ec1 ee σ2I) (zs.drop j) acc' h').bd F))
              ⟨ρ2, h2, acc, a2, L3, (Stp.refl ρ2 H2).mo, p⟩ (fun j H' _ ⟨ρ', h', acc', _, _, mo, _⟩ => wG ρ' H' mo) ?_ ?_
            · rintro j x1 H3 H4 hlt ⟨ρ', h', acc', a3, L3', mo, pp⟩ y
              obtain ⟨d1, hd1, ed⟩ := drop_cons hlt
              obtain ⟨hy, rx⟩ := wY ρ' j H3 x1 H4 d1 mo hd1 y
              obtain ⟨a4, k4⟩ := a3.yld hy
              rw [ed] at pp
              refine turn_L (t := t1) (ec := ec1) (ee := ee) (vs := vs1) (P := P) (F := fun acc h => (turns (stepL t1 vs1 ec1 ee σ2I) (zs.drop (j + 1)) acc h).bd F) hP hD a4 (L3'.mono k4) rx ht1 ?_
                fun ρ5 h5 H5 acc5 a5 m5 p5 => ⟨ρ5, h5, acc5, a5, (L3'.mono k4).mo m5, (mo.trans k4.mo).trans m5, p5⟩
              simp only [turns] at pp
              cases hst : stepL t1 vs1 ec1 ee σ2I d1 acc' h' with
              | bad => rw [hst] at pp; exact pp
              | ok acc2 h'' => rw [hst] at pp; exact pp
            · rintro H3 ⟨ρ', h', acc', a3, _, _, pp⟩
              rw [List.drop_length] at pp
              exact nx ρ' h' H3 acc' a3 pp
theorem lc2_core' {K : Fg} {vs : List Nat} (ht : ∀ i ∈ slotsT t, i ∈ vs) (ht1 : ∀ i ∈ slotsT t1, i ∈ vs1) : ∀ σ H Q, tE K (fun σ h => (es σ h).bd fun xs h => (turns (stepL2 t vs ec es1 t1 vs1 ec1 ee σ) xs [] h).bd fun ys h => mkL m ys h) σ H Q →
      tLc2 (iI K es) (rG K t) (tT K ec) (iI K es1) (rG K t1) (tT K ec1) (tE K ee) vs vs1 σ H (fun v H' => if m = true then Q v H' else FzQ Q v H') := by
    intro σ H Q ⟨ρ, h, σI, S, L, p⟩
    refine rd_mono (stp (Rv := RvI K) S L p) fun J H1 ⟨ρ1, xs, h1, k1, S1, L1, w, p1⟩ => fun D0 hD => ?_
    obtain ⟨G, Y, w, wG, wY⟩ := w
    refine walk_W w (B := fun Nx x H' => rG K t x (wipe σ vs) H' fun σ2 H2 => wipe σ2 vs = wipe σ vs ∧ tT K ec σ2 H2 fun b H3 =>
        if b = true then iI K es1 σ2 H3 fun J1 H4 => ∃ W1 : Nat → Nat → Hp → Prop, (∃ m, W1 0 m H4) ∧ ∀ j k H, W1 j k H →
          (J1.stop j H ∧ Nx H) ∨ (J1.go j H ∧ ∃ Nx1 : Hp → Prop, (∀ H', Nx1 H' → ∃ k', k' < k ∧ W1 (j + 1) k' H') ∧ ∀ x H', J1.yld j H x H' → rG K t1 x (wipe σ2 vs1) H' fun σ3 H5 => wipe σ3 vs1 = wipe σ2 vs1 ∧ tT K ec1 σ3 H5 fun b H6 =>
            if b = true then tE K ee σ3 H6 fun y H7 => ∃ acc, H7 D0 = some (.lst acc) ∧ acc.length < sizeLine ∧ Nx1 (upd H7 D0 (.lst (acc ++ [y]))) else Nx1 H6)
        else Nx H3)
      (fun i H' => ∃ ρ' h' acc, Acc K ρ1 H1 D0 ρ' h' H' acc ∧ Post (RvE K) K ρ1 H1 Q ((turns (stepL2 t vs ec es1 t1 vs1 ec1 ee σI) (xs.drop i) acc h').bd fun ys h => mkL m ys h))
      ⟨ρ1, h1, [], .start S1 hD, p1⟩ (fun i H' _ ⟨ρ', h', acc, a, _⟩ => wG ρ' H' a.k.mo) ?_ ?_
    · rintro i x H2 H' hlt ⟨ρ', h', acc, a, pp⟩ y
      obtain ⟨d, hd, ed⟩ := drop_cons hlt
      obtain ⟨hy, rx⟩ := wY ρ' i H2 x H' d a.k.mo hd y
      obtain ⟨a2, k2⟩ := a.yld hy
      rw [ed] at pp
      refine turn_L2 (P := fun r => Post (RvE K) K ρ1 H1 Q r) (F := fun acc h => (turns (stepL2 t vs ec es1 t1 vs1 ec1 ee σI) (xs.drop (i + 1)) acc h).bd fun ys h => mkL m ys h) (fun z => z) hD a2 (L1.mono a2.k) rx ht ht1 ?_ fun ρ3 h3 H3 acc3 a3 p3 => ⟨ρ3, h3, acc3, a3, p3⟩
      simp only [turns] at pp
      cases hst : stepL2 t vs ec es1 t1 vs1 ec1 ee σI d acc h' with
      | bad => rw [hst] at pp; exact pp
      | ok acc' h'' => rw [hst] at pp; exact pp
    · rintro H' ⟨ρ', h', acc, a, pp⟩
      rw [List.drop_length] at pp
      obtain ⟨us, e, r⟩ := a.at_
      exact fin_L a.k a.S hD e r a.av pp
theorem s_lc2 (hc : X.calm = true) (hN : X.N.Nodup) (hi : PI X tg iter (iI X.K es)) (ok : BlkOk X.N X.env.scope scope own) (hv : ∀ i ∈ vs1, i ∈ own.map (·.2)) (ht : ∀ i ∈ slotsT t, i ∈ own.map (·.2)) (ht1 : ∀ i ∈ slotsT t1, i ∈ vs1)
    (hg : ∀ (s : Shared) (H : Hp) (C : Addr) (cl : List (Str × Addr)) (fp : List Addr), PG (X.blk s H scope (compEnvC scope cl C X.env) fp) tg (rG X.K t))
    (hts : ∀ (s : Shared) (H : Hp) (C : Addr) (cl : List (Str × Addr)) (fp : List Addr), PTs (X.blk s H scope (compEnvC scope cl C X.env) fp) ifs (tT X.K ec))
    (hi1 : ∀ (s : Shared) (H : Hp) (C : Addr) (cl : List (Str × Addr)) (fp : List Addr), PI (X.blk s H scope (compEnvC scope cl C X.env) fp) tg1 iter1 (iI X.K es1))
    (hg1 : ∀ (s : Shared) (H : Hp) (C : Addr) (cl : List (Str × Addr)) (fp : List Addr), PG (X.blk s H scope (compEnvC scope cl C X.env) fp) tg1 (rG X.K t1))
    (hts1 : ∀ (s : Shared) (H : Hp) (C : Addr) (cl : List (Str × Addr)) (fp : List Addr), PTs (X.blk s H scope (compEnvC scope cl C X.env) fp) ifs1 (tT X.K ec1))
    (he : ∀ (s : Shared) (H : Hp) (C : Addr) (cl : List (Str × Addr)) (fp : List Addr), PE (X.blk s H scope (compEnvC scope cl C X.env) fp) elt (tE X.K ee)) (hs : ∀ x, foldedSetIterable iter X.env x = pure x) (hs1 : ∀ env x, foldedSetIterable iter1 env x = pure x) :
    PE X (.ListComp elt [⟨tg, iter, ifs, 0⟩, ⟨tg1, iter1, ifs1, 0⟩] scope pos) (tE X.K fun σ h => (es σ h).bd fun xs h => (turns (stepL2 t (own.map (·.2)) ec es1 t1 vs1 ec1 ee σ) xs [] h).bd fun ys h => mkL m ys h) := by
  have core := lc2_core' (K := X.K) (es := es) (ec := ec) (es1 := es1) (ec1 := ec1) (ee := ee) (m := m) ht ht1
  have base := pe_lc2 (g := rG X.K t) (tt := tT X.K ec) (g1 := rG X.K t1) (tt1 := tT X.K ec1) (te := tE X.K ee) (pos := pos) hc hN hi ok hv hg hts hi1 hg1 hts1 he hs hs1
  cases m with
  | true => exact PE.imp base fun σ H Q z => by simpa using core σ H Q z
  | false => exact PE.imp (PE.fz base) fun σ H Q z => by simpa using core σ H Q z
end
end VI

/-! VIm: statements, one by one. -/
namespace VI
open PySem PySem.Spec PyProof.Rows L2

/-- what a statement's outcome asks -/
def FlP (K : Fg) (D : Ends) (ρ : Ro) (H : Hp) : Fl → Prop
  | .nx σI => ∀ σ, SlR ρ K H σI σ → D.nx σ H
  | .rt d => ∀ v, Rl ρ K H d v → D.rt v H
  | .bk σI => ∀ σ, SlR ρ K H σI σ → D.bk σ H
  | .ct σI => ∀ σ, SlR ρ K H σI σ → D.ct σ H
def PostS (K : Fg) (D : Ends) (ρ : Ro) (H : Hp) : R Fl → Prop
  | .ok f h' => ∀ ρ' H', Stp ρ ρ' H H' → SR ρ' K h' H' → FlP K D ρ' H' f
  | .bad => False
def tS (K : Fg) (ex : Sig → IH → R Fl) : TS := fun D σ H => ∃ ρ h σI, SR ρ K h H ∧ SlR ρ K H σI σ ∧ PostS K D ρ H (ex σI h)
theorem PostS.shift {K : Fg} {D : Ends} {ρ ρ' : Ro} {H H' : Hp} {r : R Fl} (p : PostS K D ρ H r) (k : Stp ρ ρ' H H') : PostS K D ρ' H' r := by
  cases r with
  | bad => exact p
  | ok f h => exact fun ρ2 H2 k2 S2 => p ρ2 H2 (k.trans k2) S2
section
variable {α β : Type} {Rv : Ro → Hp → α → β → Prop} {K : Fg} {D : Ends} {ρ : Ro} {H : Hp} {h : IH} {σI : Sig} {σ : L2.St}
theorem stpS {ev : Sig → IH → R α} {f : α → IH → R Fl} (S : SR ρ K h H) (L : SlR ρ K H σI σ) (p : PostS K D ρ H ((ev σI h).bd f)) :
    rd Rv K ev σ H (fun v H1 => ∃ ρ1 x h1, Stp ρ ρ1 H H1 ∧ SR ρ1 K h1 H1 ∧ SlR ρ1 K H1 σI σ ∧ Rv ρ1 H1 x v ∧ PostS K D ρ1 H1 (f x h1)) := by
  refine ⟨ρ, h, σI, S, L, ?_⟩
  cases e : ev σI h with
  | bad => rw [e] at p; exact p
  | ok d h' =>
    rw [e] at p
    have p' : PostS K D ρ H (f d h') := p
    exact fun ρ' H' v k s r => ⟨ρ', d, h', k, s, L.mono k, r, p'.shift k⟩
theorem fl_now {f : Fl} (p : PostS K D ρ H (.ok f h)) (S : SR ρ K h H) : FlP K D ρ H f := p ρ H (.refl ρ H) S
end
section
variable {X : Cx} {e a b tg iter : Expr} {ea eb : Sig → IH → R D} {ec : Sig → IH → R Bool} {es : Sig → IH → R (List D)} {pos : Pos} {t : Tgt} {x1 x2 : Sig → IH → R Fl} {st : Stmt} {sts sts2 : List Stmt}
theorem z_nil : PSs X [] (tS X.K fun σ h => .ok (.nx σ) h) :=
  PSs.imp pss_nil fun D σ H ⟨ρ, h, σI, S, L, p⟩ => fl_now p S σ L
theorem z_cons (h1 : PS X st (tS X.K x1)) (h2 : PSs X sts (tS X.K x2)) : PSs X (st :: sts) (tS X.K fun σ h => (x1 σ h).bd fun f h => match f with | .nx σ' => x2 σ' h | g => .ok g h) := by
  refine PSs.imp (pss_cons h1 h2) fun D σ H ⟨ρ, h, σI, S, L, p⟩ => ⟨ρ, h, σI, S, L, ?_⟩
  dsimp only at p
  cases e : x1 σI h with
  | bad => rw [e] at p; exact p
  | ok f h1 =>
    rw [e] at p
    intro ρ1 H1 k1 S1
    cases f with
    | nx σ1 => exact fun τ L1 => ⟨ρ1, h1, σ1, S1, L1, (show PostS X.K D ρ H (x2 σ1 h1) from p).shift k1⟩
    | rt d => exact p ρ1 H1 k1 S1
    | bk σ1 => exact p ρ1 H1 k1 S1
    | ct σ1 => exact p ρ1 H1 k1 S1
theorem z_pass : PS X (.Pass pos) (tS X.K fun σ h => .ok (.nx σ) h) := PS.imp ps_pass fun D σ H ⟨ρ, h, σI, S, L, p⟩ => fl_now p S σ L
theorem z_brk : PS X (.Break pos) (tS X.K fun σ h => .ok (.bk σ) h) := PS.imp ps_break fun D σ H ⟨ρ, h, σI, S, L, p⟩ => fl_now p S σ L
theorem z_cont : PS X (.Continue pos) (tS X.K fun σ h => .ok (.ct σ) h) := PS.imp ps_continue fun D σ H ⟨ρ, h, σI, S, L, p⟩ => fl_now p S σ L
theorem z_never : PS X st (tS X.K fun _ _ => .bad) := PS.imp ps_never fun D σ H ⟨ρ, h, σI, S, L, p⟩ => p
theorem z_retN : PS X (.Return none pos) (tS X.K fun _ h => .ok (.rt .non) h) := PS.imp ps_retN fun D σ H ⟨ρ, h, σI, S, L, p⟩ => fl_now p S .non .non
theorem z_ret (he : PE X e (tE X.K ea)) : PS X (.Return (some e) pos) (tS X.K fun σ h => (ea σ h).bd fun x h => .ok (.rt x) h) :=
  PS.imp (ps_ret he) fun D σ H ⟨ρ, h, σI, S, L, p⟩ => rd_mono (stpS (Rv := RvE X.K) S L p) fun v H1 ⟨ρ1, x, h1, k1, S1, L1, r1, p1⟩ => fl_now p1 S1 v r1
theorem z_retF (he : PE X e (tE X.K ea)) : PS X (.Return (some e) pos) (tS X.K fun σ h => (ea σ h).bd fun x h => (freeze x h).bd fun y h => .ok (.rt y) h) := by
  refine PS.imp (ps_ret (s_fz he)) fun D σ H ⟨ρ, h, σI, S, L, p⟩ => ?_
  have p' : PostS X.K D ρ H (((ea σI h).bd fun x h => freeze x h).bd fun y h => .ok (.rt y) h) := by
    cases e : ea σI h with
    | bad => dsimp only at p; rw [e] at p; exact p
    | ok d h' => dsimp only at p; rw [e] at p; exact p
  exact rd_mono (stpS (ev := fun σ h => (ea σ h).bd fun x h => freeze x h) (Rv := RvE X.K) S L p') fun v H1 ⟨ρ1, x, h1, k1, S1, L1, r1, p1⟩ => fl_now p1 S1 v r1
theorem z_expr (he : PE X e (tE X.K ea)) (hs : swapsWith e none pos.line X.env = pure false) : PS X (.Expr e pos) (tS X.K fun σ h => (ea σ h).bd fun _ h => .ok (.nx σ) h) :=
  PS.imp (ps_expr he hs) fun D σ H ⟨ρ, h, σI, S, L, p⟩ => rd_mono (stpS (Rv := RvE X.K) S L p) fun v H1 ⟨ρ1, x, h1, k1, S1, L1, r1, p1⟩ => fl_now p1 S1 σ L1
theorem z_ite (hc : PT X a (tT X.K ec)) (h1 : PSs X sts (tS X.K x1)) (h2 : PSs X sts2 (tS X.K x2)) : PS X (.If a sts sts2 pos) (tS X.K fun σ h => (ec σ h).bd fun d h => match d with | true => x1 σ h | false => x2 σ h) := by
  refine PS.imp (ps_if hc h1 h2) fun D σ H ⟨ρ, h, σI, S, L, p⟩ => rd_mono (stpS (Rv := RvT) S L p) fun v H1 ⟨ρ1, x, h1, k1, S1, L1, r1, p1⟩ => ?_
  cases (show x = v from r1)
  cases v with
  | true => rw [if_pos rfl]; exact ⟨ρ1, h1, σI, S1, L1, p1⟩
  | false => rw [if_neg Bool.false_ne_true]; exact ⟨ρ1, h1, σI, S1, L1, p1⟩
/-- target = value -/
theorem asg_red {K : Fg} {D : Ends} {σ : L2.St} {H : Hp} (h : tS K (fun σ h => (ea σ h).bd fun x h => match asgT t x σ with | some σ' => .ok (.nx σ') h | none => .bad) D σ H) : tAsg (tE K ea) (rG K t) D σ H := by
  obtain ⟨ρ, h, σI, S, L, p⟩ := h
  refine rd_mono (stpS (Rv := RvE K) S L p) fun v H1 ⟨ρ1, x, h1, k1, S1, L1, r1, p1⟩ => ?_
  cases ha : asgT t x σI with
  | none => rw [ha] at p1; exact p1.elim
  | some σJ => rw [ha] at p1; exact ⟨ρ1, σI, x, σJ, L1, r1, ha, fun σ' L' _ => fl_now p1 S1 σ' L'⟩
theorem z_asg (he : PE X e (tE X.K ea)) (hg : PG X tg (rG X.K t)) (hs : swapsWithSole [tg] e pos.line X.env = pure false) (hw : swappedStores [tg] e X.env = pure none) (h1 : (assignEach [tg] X.env).map (·.2) = [assign tg X.env]) :
    PS X (.Assign [tg] e pos) (tS X.K fun σ h => (ea σ h).bd fun x h => match asgT t x σ with | some σ' => .ok (.nx σ') h | none => .bad) :=
  PS.imp (ps_asg he hg hs hw h1) fun _ _ _ => asg_red
/-- freezing behind a statement -/
theorem PS.fz {t : TS} (h : PS X st t) : PS X st (fun D σ H => t { D with nx := fun σ' H' => ∃ a xs, H' a = some (.lst xs) ∧ ∀ o, D.nx σ' (upd H' a (.frz o (.lst xs))) } σ H) := by
  refine ⟨fun pins s σ H D I q => thn (h.run pins s σ H _ I q) fun f s1 z => ?_⟩
  cases f with
  | next =>
    obtain ⟨σ', H', J, a, xs, e, n⟩ := z
    obtain ⟨o, J'⟩ := inv_fz J e
    exact ⟨σ', _, J', n o⟩
  | brk => exact z
  | cont => exact z
  | ret u => exact z
/-- o[i] = e -/
theorem z_seti {o i : Expr} {eo ei : Sig → IH → R D} {p2 : Pos} (hu : X.A.units + 1 < cLine) (he : PE X e (tE X.K ea)) (ho : PE X o (tE X.K eo)) (hi : PE X i (tE X.K ei))
    (ha : ∀ v, assign (.Subscript o i p2) X.env v = (do
      let ov ← holding [v] (eval o X.env)
      let iv ← holding [v, ov] (eval i X.env)
      standAt p2
      holding [v, ov, iv] (setItem ov iv v)
      release [v, ov, iv] []))
    (hs : swapsWithSole [.Subscript o i p2] e pos.line X.env = pure false) (hw : swappedStores [.Subscript o i p2] e X.env = pure none) :
    PS X (.Assign [.Subscript o i p2] e pos) (tS X.K fun σ h => (ea σ h).bd fun v h => (eo σ h).bd fun x h => (ei σ h).bd fun y h => (setD x y v h).bd fun _ h => .ok (.nx σ) h) := by
  refine PS.imp (ps_asg he (pg_sub ho hi (set_any hu) ha) hs hw rfl) fun D σ H ⟨ρ, h, σI, S, L, p⟩ => ?_
  refine rd_mono (stpS (Rv := RvE X.K) S L p) fun v1 H1 ⟨ρ1, z, h1, k1, S1, L1, r1, p1⟩ => ?_
  refine rd_mono (stpS (Rv := RvE X.K) S1 L1 p1) fun v2 H2 ⟨ρ2, x, h2, k2, S2, L2, r2, p2⟩ => ?_
  refine rd_mono (stpS (Rv := RvE X.K) S2 L2 p2) fun v3 H3 ⟨ρ3, y, h3, k3, S3, L3, r3, p3⟩ => ?_
  refine ⟨ρ3, h3, x, y, z, S3, r2.mono k3, r3, (r1.mono k2).mono k3, ?_⟩
  cases hd : setD x y z h3 with
  | bad => rw [hd] at p3; exact p3
  | ok u h4 =>
    rw [hd] at p3
    intro ρ4 H4 _ k4 S4 _
    exact (show PostS X.K D ρ3 H3 (.ok (.nx σI) h4) from p3) ρ4 H4 k4 S4 σ (L3.mono k4)
/-- name op= e -/
theorem z_aug {i : Nat} {x : Str} {o : Operator} {p2 : Pos} (hN : X.N.Nodup) (hi : X.N[i]? = some x) (hx : Loc X.env.scope x) (hf : X.fn x = true ∨ X.env.scope.names.lookup x = some .local) (he : PE X e (tE X.K ea)) (hoo : o = .Add ∨ o = .Sub) :
    PS X (.AugAssign (.Name x p2) o e pos) (tS X.K fun σ h => match σ[i]? with
      | some (some x) => (ea σ h).bd fun y h => match augD o x y with
        | some z => .ok (.nx (σ.set i (some z))) h
        | none => .bad
      | _ => .bad) := by
  have red : ∀ {f : Int → Int → Int}, (∀ i j : Int, augD o (.int i) (.int j) = some (.int (f i j))) → (∀ x y z, augD o x y = some z → ∃ i j : Int, x = .int i ∧ y = .int j) → ∀ D σ H, tS X.K (fun σ h => match σ[i]? with
      | some (some x) => (ea σ h).bd fun y h => match augD o x y with
        | some z => .ok (.nx (σ.set i (some z))) h
        | none => .bad
      | _ => .bad) D σ H → tAug i (tE X.K ea) (ipI f) D σ H := by
    intro f hf1 hf2 D σ H ⟨ρ, h, σI, S, L, p⟩
    dsimp only at p
    cases hv : σI[i]? with
    | none => rw [hv] at p; exact p.elim
    | some ov =>
      cases ov with
      | none => rw [hv] at p; exact p.elim
      | some d =>
        rw [hv] at p
        obtain ⟨v, e1, r⟩ := L.at_ i d hv
        refine ⟨v, e1, rd_mono (stpS (Rv := RvE X.K) S L p) fun w H1 ⟨ρ1, y, h1, k1, S1, L1, r1, p1⟩ => ?_⟩
        cases ha : augD o d y with
        | none => rw [ha] at p1; exact p1.elim
        | some z =>
          obtain ⟨m, n, rfl, rfl⟩ := hf2 d y z ha
          rw [hf1 m n] at ha
          cases ha
          rw [hf1 m n] at p1
          cases r
          cases (show Rl ρ1 X.K H1 (.int n) w from r1)
          exact ⟨m, n, rfl, rfl, fl_now p1 S1 _ (L1.set i (.int _))⟩
  rcases hoo with rfl | rfl
  · refine PS.imp (ps_aug hN hi hx he ip_add hf) (red (fun _ _ => rfl) fun x y z e => ?_)
    cases x <;> first | cases e | skip
    cases y <;> first | exact ⟨_, _, rfl, rfl⟩ | cases e
  · refine PS.imp (ps_aug hN hi hx he ip_sub hf) (red (fun _ _ => rfl) fun x y z e => ?_)
    cases x <;> first | cases e | skip
    cases y <;> first | exact ⟨_, _, rfl, rfl⟩ | cases e
/-! ### loops -/
theorem z_for (hp : X.xe = fun _ _ => False) (hc : X.calm = true) (hi : PI X tg iter (iI X.K es)) (hg : PG X tg (rG X.K t)) (hb : PSs X sts (tS X.K x1)) (hs : ∀ x, foldedSetIterable iter X.env x = pure x) :
    PS X (.For tg iter sts [] pos) (tS X.K fun σ h => (es σ h).bd fun xs h => forN (fun x σ h => match asgT t x σ with | none => .bad | some σ2 => x1 σ2 h) xs σ h) := by
  refine PS.imp (ps_for (by rw [hp]; exact PassesOwn.never) hc hi hg hb hs) fun D σ H ⟨ρ, h, σI, S, L, p⟩ => ?_
  refine rd_mono (stpS (Rv := RvI X.K) S L p) fun J H1 ⟨ρ1, xs, h1, k1, S1, L1, w, p1⟩ => ?_
  obtain ⟨G, Y, w, wG, wY⟩ := w
  generalize hst : (fun (x : VI.D) (σ : Sig) (h : IH) => match asgT t x σ with | none => (R.bad : R Fl) | some σ2 => x1 σ2 h) = step at p1
  refine for_it w (fun i τ H' => ∃ ρ' h' σJ, Stp ρ1 ρ' H1 H' ∧ SR ρ' X.K h' H' ∧ SlR ρ' X.K H' σJ τ ∧ PostS X.K D ρ1 H1 (forN step (xs.drop i) σJ h'))
    ⟨ρ1, h1, σI, .refl _ _, S1, L1, p1⟩ (fun i τ H' _ ⟨ρ', _, _, k, _⟩ => wG ρ' H' k.mo) ?_ ?_
  · rintro i x τ H2 H' hlt ⟨ρ', h', σJ, k, S', L', pp⟩ y
    obtain ⟨d, hd, ed⟩ := drop_cons hlt
    obtain ⟨hy, rx⟩ := wY ρ' i H2 x H' d k.mo hd y
    have k2 : Stp ρ' ρ' H2 H' ∧ SR ρ' X.K h' H' := by
      rcases hy with e | ⟨T, u, hT, e⟩
      · subst e; exact ⟨.refl _ _, S'⟩
      · subst e; exact ⟨.new hT, S'.new hT⟩
    rw [ed] at pp
    simp only [forN] at pp
    have es : step d σJ h' = (match asgT t d σJ with | none => (R.bad : R Fl) | some σ2 => x1 σ2 h') := by rw [← hst]
    cases ha : asgT t d σJ with
    | none => rw [es, ha] at pp; exact pp.elim
    | some σ2 =>
      rw [es, ha] at pp
      refine ⟨ρ', σJ, d, σ2, L'.mono k2.1, rx, ha, fun τ2 L2 _ => ⟨ρ', h', σ2, k2.2, L2, ?_⟩⟩
      dsimp only at pp
      cases hx : x1 σ2 h' with
      | bad => rw [hx] at pp; exact pp
      | ok f h3 =>
        rw [hx] at pp
        intro ρ3 H3 k3 S3
        have kk : Stp ρ1 ρ3 H1 H3 := (k.trans k2.1).trans k3
        cases f with
        | nx σ3 => exact fun τ3 L3 => ⟨ρ3, h3, σ3, kk, S3, L3, pp⟩
        | ct σ3 => exact fun τ3 L3 => ⟨ρ3, h3, σ3, kk, S3, L3, pp⟩
        | bk σ3 => exact fun τ3 L3 => pp ρ3 H3 kk S3 τ3 L3
        | rt d3 => exact pp ρ3 H3 kk S3
  · rintro τ H' ⟨ρ', h', σJ, k, S', L', pp⟩
    rw [List.drop_length] at pp
    exact pp ρ' H' k S' τ L'
theorem z_whl {fuel : Nat} (hp : X.xe = fun _ _ => False) (hc : PT X a (tT X.K ec)) (hb : PSs X sts (tS X.K x1)) :
    PS X (.While a sts [] pos) (tS X.K fun σ h => whileN (fun σ h => (ec σ h).bd fun d h => match d with | true => (x1 σ h).bd fun f h => .ok (some f) h | false => .ok none h) fuel σ h) := by
  refine PS.imp (ps_while (by rw [hp]; exact PassesOwn.never) hc hb) fun D σ H ⟨ρ, h, σI, S, L, p⟩ => ?_
  dsimp only at p
  generalize hst : (fun (σ : Sig) (h : IH) => (ec σ h).bd fun d h => match d with | true => (x1 σ h).bd fun f h => .ok (some f) h | false => .ok none h) = step at p
  refine ⟨fun m τ H' => ∃ ρ' h' σJ, Stp ρ ρ' H H' ∧ SR ρ' X.K h' H' ∧ SlR ρ' X.K H' σJ τ ∧ PostS X.K D ρ H (whileN step m σJ h'), ⟨fuel, ρ, h, σI, .refl _ _, S, L, p⟩, ?_⟩
  rintro m τ H' ⟨ρ', h', σJ, k, S', L', pp⟩
  cases m with
  | zero => exact pp.elim
  | succ m =>
    simp only [whileN] at pp
    have es : step σJ h' = ((ec σJ h').bd fun d h => match d with | true => (x1 σJ h).bd fun f h => .ok (some f) h | false => .ok none h) := by rw [← hst]
    refine ⟨ρ', h', σJ, S', L', ?_⟩
    cases hx : ec σJ h' with
    | bad => rw [es, hx] at pp; exact pp
    | ok b h1 =>
      rw [es, hx] at pp
      intro ρ1 H1 b' k1 S1 eb
      cases (show b = b' from eb)
      cases b with
      | false => rw [if_neg Bool.false_ne_true]; exact pp ρ1 H1 (k.trans k1) S1 τ (L'.mono k1)
      | true =>
        rw [if_pos rfl]
        refine ⟨fun τ2 H2 => ∃ ρ' h' σJ, Stp ρ ρ' H H2 ∧ SR ρ' X.K h' H2 ∧ SlR ρ' X.K H2 σJ τ2 ∧ PostS X.K D ρ H (whileN step m σJ h'), fun τ2 H2 z => ⟨m, Nat.lt_succ_self m, z⟩, ρ1, h1, σJ, S1, L'.mono k1, ?_⟩
        simp only [R.bd] at pp
        cases hy : x1 σJ h1 with
        | bad => rw [hy] at pp; exact pp
        | ok f h2 =>
          rw [hy] at pp
          intro ρ2 H2 k2 S2
          have kk : Stp ρ ρ2 H H2 := (k.trans k1).trans k2
          cases f with
          | nx σ3 => exact fun τ3 L3 => ⟨ρ2, h2, σ3, kk, S2, L3, pp⟩
          | ct σ3 => exact fun τ3 L3 => ⟨ρ2, h2, σ3, kk, S2, L3, pp⟩
          | bk σ3 => exact fun τ3 L3 => pp ρ2 H2 kk S2 τ3 L3
          | rt d3 => exact pp ρ2 H2 kk S2
end
end VI

/-! VIn: assignments side by side; a comprehension's list stored at once. -/
namespace VI
open PySem PySem.Spec PyProof.Rows L2

section
variable {X : Cx} {eas : Sig → IH → R (List D)} {ea : Sig → IH → R D} {pos : Pos}
theorem asg2 {i j : Nat} {ds : List D} {σ σ' : Sig} (e : asgTs [.nm i, .nm j] ds σ = some σ') : ∃ a b, ds = [a, b] ∧ σ' = (σ.set i (some a)).set j (some b) := by
  match ds, e with
  | [a, b], e => simp only [asgTs, asgT] at e; exact ⟨a, b, rfl, (Option.some.inj e).symm⟩
  | [], e => simp [asgTs] at e
  | [_], e => simp [asgTs, asgT] at e
  | _ :: _ :: _ :: _, e => simp [asgTs, asgT] at e
theorem asg3 {i j l : Nat} {ds : List D} {σ σ' : Sig} (e : asgTs [.nm i, .nm j, .nm l] ds σ = some σ') : ∃ a b c, ds = [a, b, c] ∧ σ' = ((σ.set i (some a)).set j (some b)).set l (some c) := by
  match ds, e with
  | [a, b, c], e => simp only [asgTs, asgT] at e; exact ⟨a, b, c, rfl, (Option.some.inj e).symm⟩
  | [], e => simp [asgTs] at e
  | [_], e => simp [asgTs, asgT] at e
  | [_, _], e => simp [asgTs, asgT] at e
  | _ :: _ :: _ :: _ :: _, e => simp [asgTs, asgT] at e
/-- the names of the targets are stored side by side -/
def parOk (sc : Scope) (ts vs : List Expr) : Bool :=
  (match sc.kind with | .function => true | _ => false) && vs.all noStar && !(vs.all (foldedForSure 8)) && !(vs.all (constantsAlone 8))
theorem sw_par {env : Env} {x y : Str} {px py pt pt2 : Pos} {kt k2 : Nat} {a b : Expr} (h : parOk env.scope [.Name x px, .Name y py] [a, b] = true) (hx : env.scope.names.lookup x = some .local) (hy : env.scope.names.lookup y = some .local)
    (hl : (py.line == px.line) = true) (hxy : (x == y) = false) : swappedStores [.Tuple [.Name x px, .Name y py] kt pt] (.Tuple [a, b] k2 pt2) env = pure (some [x, y]) := by
  unfold parOk at h
  simp only [Bool.and_eq_true, Bool.not_eq_true', List.all_cons, List.all_nil, Bool.and_true] at h
  obtain ⟨⟨⟨hk, s1, s2⟩, hf⟩, hc⟩ := h
  have hk' : env.scope.kind = .function := by
    revert hk
    cases env.scope.kind <;> simp
  have kx : env.kindOf x = some .local := hx
  have ky : env.kindOf y = some .local := hy
  have hb : env.blockKind = .function := by unfold Env.blockKind; rw [hk']; rfl
  have hxy' : ¬ (y = x) := fun e => by subst e; simp at hxy
  have hl' : py.line = px.line := by simpa using hl
  unfold swappedStores
  have hd : ([x, y] : List Str).eraseDups = [x, y] := by
    simp [List.eraseDups_cons, hxy']
  simp [hb, kx, ky, hl', Expr.pos, hd, hf, hc, List.filterMap_cons]
  intro hh
  exfalso
  rcases hh with hh | hh
  · cases a <;> first | exact Bool.false_ne_true hh | exact Bool.false_ne_true s1
  · cases b <;> first | exact Bool.false_ne_true hh | exact Bool.false_ne_true s2
theorem z_par2 {i j : Nat} {x y : Str} {a b : Expr} {px py pt pt2 : Pos} {kt k2 : Nat} (hc : X.calm = true) (hN : X.N.Nodup) (hi : X.N[i]? = some x) (hj : X.N[j]? = some y) (hij : i ≠ j)
    (hx : X.env.scope.names.lookup x = some .local) (hy : X.env.scope.names.lookup y = some .local) (ha : PA X [a, b] (tA X.K eas)) (hl : (py.line == px.line) = true) (hxy : (x == y) = false) (h : parOk X.env.scope [.Name x px, .Name y py] [a, b] = true) :
    PS X (.Assign [.Tuple [.Name x px, .Name y py] kt pt] (.Tuple [a, b] k2 pt2) pos) (tS X.K fun σ h => (eas σ h).bd fun xs h => match asgTs ([i, j].map Tgt.nm) xs σ with | some σ' => .ok (.nx σ') h | none => .bad) := by
  refine PS.imp (ps_par hc hN hi hj hij hx hy ha (sw_par h hx hy hl hxy) rfl) fun D σ H ⟨ρ, h, σI, S, L, p⟩ => ?_
  refine rd_mono (stpS (Rv := RvA X.K) S L p) fun v H1 ⟨ρ1, xs, h1, k1, S1, L1, r1, p1⟩ => ?_
  cases e : asgTs ([i, j].map Tgt.nm) xs σI with
  | none => rw [e] at p1; exact p1.elim
  | some σJ =>
    rw [e] at p1
    obtain ⟨d1, d2, rfl, rfl⟩ := asg2 e
    cases r1 with
    | cons ra r2 =>
      cases r2 with
      | cons rb r3 =>
        cases r3
        exact ⟨_, _, rfl, fl_now p1 S1 _ ((L1.set i ra).set j rb)⟩
theorem sw_par3 {env : Env} {x y z : Str} {px py pz pt pt2 : Pos} {kt k2 : Nat} {a b c : Expr} (h : parOk env.scope [.Name x px, .Name y py, .Name z pz] [a, b, c] = true) (hx : env.scope.names.lookup x = some .local) (hy : env.scope.names.lookup y = some .local) (hz : env.scope.names.lookup z = some .local)
    (hl : (py.line == px.line) = true) (hl2 : (pz.line == px.line) = true) (hxy : (x == y) = false) (hxz : (x == z) = false) (hyz : (y == z) = false) : swappedStores [.Tuple [.Name x px, .Name y py, .Name z pz] kt pt] (.Tuple [a, b, c] k2 pt2) env = pure (some [x, y, z]) := by
  unfold parOk at h
  simp only [Bool.and_eq_true, Bool.not_eq_true', List.all_cons, List.all_nil, Bool.and_true] at h
  obtain ⟨⟨⟨hk, s1, s2, s3⟩, hf⟩, hc⟩ := h
  have hk' : env.scope.kind = .function := by
    revert hk
    cases env.scope.kind <;> simp
  have kx : env.kindOf x = some .local := hx
  have ky : env.kindOf y = some .local := hy
  have kz : env.kindOf z = some .local := hz
  have hb : env.blockKind = .function := by unfold Env.blockKind; rw [hk']; rfl
  have hxy' : ¬ (y = x) := fun e => by subst e; simp at hxy
  have hxz' : ¬ (z = x) := fun e => by subst e; simp at hxz
  have hyz' : ¬ (z = y) := fun e => by subst e; simp at hyz
  have hl' : py.line = px.line := by simpa using hl
  have hl2' : pz.line = px.line := by simpa using hl2
  unfold swappedStores
  have hd : ([x, y, z] : List Str).eraseDups = [x, y, z] := by
    simp [List.eraseDups_cons, hxy', hxz', hyz']
  simp [hb, kx, ky, kz, hl', hl2', Expr.pos, hd, hf, hc, List.filterMap_cons]
  intro hh
  exfalso
  rcases hh with hh | hh | hh
  · cases a <;> first | exact Bool.false_ne_true hh | exact Bool.false_ne_true s1
  · cases b <;> first | exact Bool.false_ne_true hh | exact Bool.false_ne_true s2
  · cases c <;> first | exact Bool.false_ne_true hh | exact Bool.false_ne_true s3
theorem z_par3 {i j l : Nat} {x y z : Str} {a b c : Expr} {px py pz pt pt2 : Pos} {kt k2 : Nat} (hc : X.calm = true) (hN : X.N.Nodup) (hi : X.N[i]? = some x) (hj : X.N[j]? = some y) (hk : X.N[l]? = some z) (hij : i ≠ j) (hil : i ≠ l) (hjl : j ≠ l)
    (hx : X.env.scope.names.lookup x = some .local) (hy : X.env.scope.names.lookup y = some .local) (hz : X.env.scope.names.lookup z = some .local) (ha : PA X [a, b, c] (tA X.K eas)) (hl : (py.line == px.line) = true) (hl2 : (pz.line == px.line) = true)
    (hxy : (x == y) = false) (hxz : (x == z) = false) (hyz : (y == z) = false) (h : parOk X.env.scope [.Name x px, .Name y py, .Name z pz] [a, b, c] = true) :
    PS X (.Assign [.Tuple [.Name x px, .Name y py, .Name z pz] kt pt] (.Tuple [a, b, c] k2 pt2) pos) (tS X.K fun σ h => (eas σ h).bd fun xs h => match asgTs ([i, j, l].map Tgt.nm) xs σ with | some σ' => .ok (.nx σ') h | none => .bad) := by
  refine PS.imp (ps_par3 hc hN hi hj hk hij hil hjl hx hy hz ha (sw_par3 h hx hy hz hl hl2 hxy hxz hyz) rfl) fun D σ H ⟨ρ, h, σI, S, L, p⟩ => ?_
  refine rd_mono (stpS (Rv := RvA X.K) S L p) fun v H1 ⟨ρ1, xs, h1, k1, S1, L1, r1, p1⟩ => ?_
  cases e : asgTs ([i, j, l].map Tgt.nm) xs σI with
  | none => rw [e] at p1; exact p1.elim
  | some σJ =>
    rw [e] at p1
    obtain ⟨d1, d2, d3, rfl, rfl⟩ := asg3 e
    cases r1 with
    | cons ra r2 =>
      cases r2 with
      | cons rb r3 =>
        cases r3 with
        | cons rc r4 =>
          cases r4
          exact ⟨_, _, _, rfl, fl_now p1 S1 _ (((L1.set i ra).set j rb).set l rc)⟩
/-- from a value's reading to a store's -/
theorem asg_one {K : Fg} {i : Nat} {D : Ends} {σ : L2.St} {H : Hp} (h : tS K (fun σ h => (ea σ h).bd fun x h => match asgT (.nm i) x σ with | some σ' => .ok (.nx σ') h | none => .bad) D σ H) : tE K ea σ H (fun v H' => gName i v σ H' D.nx) := by
  obtain ⟨ρ, h, σI, S, L, p⟩ := h
  refine rd_mono (stpS (Rv := RvE K) S L p) fun v H1 ⟨ρ1, x, h1, k1, S1, L1, r1, p1⟩ => ?_
  exact fl_now p1 S1 _ (L1.set i r1)
/-- a store of a new list, frozen or not -/
theorem asg_new {st : Stmt} {i : Nat} {T : TE} {m : Bool} (base : PS X st (tAsg T (gName i))) (core : ∀ σ H Q, tE X.K ea σ H Q → T σ H (fun v H' => if m = true then Q v H' else FzQ Q v H')) (mono : ∀ σ H Q Q', T σ H Q → (∀ v H', Q v H' → Q' v H') → T σ H Q') :
    PS X st (tS X.K fun σ h => (ea σ h).bd fun x h => match asgT (.nm i) x σ with | some σ' => .ok (.nx σ') h | none => .bad) := by
  cases m with
  | true => exact PS.imp base fun D σ H z => by have c := core σ H _ (asg_one z); simpa [tAsg] using c
  | false =>
    refine PS.imp (PS.fz base) fun D σ H z => ?_
    have c := core σ H _ (asg_one z)
    refine mono σ H _ _ c fun v H' q => ?_
    rw [if_neg Bool.false_ne_true] at q
    obtain ⟨a, xs, rfl, e, q⟩ := q
    exact ⟨a, xs, e, q⟩
end
end VI

/-! VIu: dict comprehensions, the keys ints and texts, or tuples of them. -/
namespace VI
open PySem PySem.Spec PyProof.Rows L2

def newD (tk : Bool) : HO := if tk = true then .dT [] else .dK []
theorem newD_ok {P : Program} {w : World} {H : Hp} (tk : Bool) (h : Heap) (hb : sysModules < h.objs.size) : ObjOk P w H (h.push { cls := .type "dict", data := .dict #[] }) h.objs.size (newD tk) := by
  cases tk with
  | true => exact dt_empty h hb
  | false => exact dk_empty h hb
section
variable {X : Cx}
/-- one entry is stored by the comprehension itself -/
theorem set_put {pins : List (Addr × Obj)} {σ : L2.St} {H H' : Hp} {s : Shared} {E : Value → Shared → Prop} {d : Addr} {y z : V} {u r : Value} {Q : Unit → Shared → Prop} (hu : X.A.units + 1 < cLine) (I : Inv X pins σ H s) (g : DPut H d y z H') (ru : RelV y u) (rr : RelV z r)
    (fin : ∀ s', Inv X pins σ H' s' → Q () s') : wpAny (model X.prog X.w) X.A (dictSet d u r) Q E s := by
  rcases g with ⟨kvs, k, e1, rfl, lt, rfl⟩ | ⟨kvs, k, b, e1, rfl, eb, lt, rfl⟩
  · exact d_dictSet I e1 lt ru rr fin
  · obtain rfl : u = .ref b := ru
    obtain ⟨n0, ns, es, rel, dd⟩ := dt_of I.hok e1
    have le1 := length_putK kvs k z
    refine wpAny_dictSet_heap (hsz := by rw [← Paired.length rel]; exact n0) (show (tupleKind (mixKind X.prog X.w)).room X.A from Nat.lt_of_succ_lt hu) (key_of I.hok eb) dd fun h2 dd2 sb => fin _ ?_
    obtain ⟨ob, en, ep, hob, p1, p2, p3, _, p4⟩ := dd2
    refine d_write I (by rw [e1]; trivial) sb ⟨ob, hob⟩ ⟨by omega, ns, _, (rel.put k eb rr).keeps fun c ys ec => ?_, ob, en, ep, hob, p1, p2, p3, p4⟩
    rw [upd_ne (ne_of ec e1 (fun q => nomatch q))]
    exact ec
def tDx (tk : Bool) (wi : TI) (g : TG) (tt : TT) (tky tv : TE) (vs : List Nat) : TE := fun σ H Q => wi σ H fun J H1 => ∀ d, H1 d = none → ∃ W : Nat → Nat → Hp → Prop, (∃ m, W 0 m (upd H1 d (newD tk))) ∧ ∀ i m H, W i m H →
  (J.stop i H ∧ Q (.ref d) H) ∨ (J.go i H ∧ ∃ Nx : Hp → Prop, (∀ H', Nx H' → ∃ m', m' < m ∧ W (i + 1) m' H') ∧ ∀ x H', J.yld i H x H' → g x (wipe σ vs) H' fun σ2 H2 => wipe σ2 vs = wipe σ vs ∧ tt σ2 H2 fun b H3 =>
    if b = true then tky σ2 H3 fun y H4 => tv σ2 H4 fun z H5 => ∃ H6, DPut H5 d y z H6 ∧ Nx H6 else Nx H3)
theorem dx_core {tk : Bool} {pins : List (Addr × Obj)} {s : Shared} {σ : L2.St} {H : Hp} {Q : VK} {kx vx tg iter : Expr} {ifs : List Expr} {scope : Scope} {own : List (Str × Nat)} {pos pos' : Pos} {wi : TI} {g : TG} {tt : TT} {tky tv : TE} {use : Option (Value → Sem Unit)} {Qf : Value → Shared → Prop}
    (hu : X.A.units + 1 < cLine) (hc : X.calm = true) (hN : X.N.Nodup) (I : Inv X pins σ H s) (hi : PI X tg iter wi) (ok : BlkOk X.N X.env.scope scope own) (hs : ∀ x, foldedSetIterable iter X.env x = pure x)
    (hb : ∀ (s : Shared) (H : Hp) (C : Addr) (cl : List (Str × Addr)) (fp : List Addr), PG (X.blk s H scope (compEnvC scope cl C X.env) fp) tg g ∧ PTs (X.blk s H scope (compEnvC scope cl C X.env) fp) ifs tt ∧ PE (X.blk s H scope (compEnvC scope cl C X.env) fp) kx tky ∧ PE (X.blk s H scope (compEnvC scope cl C X.env) fp) vx tv)
    (q : tDx tk wi g tt tky tv (own.map (·.2)) σ H Q)
    (fin : ∀ d C s' m H', Inv X pins σ H' s' → Q (.ref d) H' → s'.heap.Ns C m → FpOk X pins H' C → compPost (model X.prog X.w) X.A X.xe use Qf (.ref d) C (.ok .next) s') :
    wpAny (model X.prog X.w) X.A (comprehension (.DictComp kx vx [⟨tg, iter, ifs, 0⟩] scope pos) scope X.env pos' newDict false (eval iter X.env) use) Qf X.xe s := by
  have cellsOf : ∀ y ∈ scope.names, y.2 = .free → ∃ c, X.env.cells.lookup y.1 = some c := fun y hy e => (ok.free y hy e).elim (fun k => I.ok.has _ (.inl k)) fun k => I.ok.has _ (.inr k)
  refine wpAny_comprehension_free (use := use) rfl hs (closure_ok cellsOf) ok.kind (fun y hy e => by rw [ok.uniq y hy, e]) (thn (hi.run pins s σ H _ I q) fun _ _ hx => thn hx fun itv sA hA => ?_)
  obtain ⟨it, fp, tn, J, HA, rfl, IA, T, tA, fA, qA⟩ := hA
  refine wpAny_newObj_type (newEnv_comp ?_)
  have fresh : HA sA.heap.objs.size = none := IA.hok.fresh (Nat.le_refl _)
  obtain ⟨W, ⟨m0, w0⟩, turn⟩ := qA _ fresh
  -- the new dict stands
  obtain ⟨sB, eB⟩ : ∃ sB : Shared, sB = { sA with heap := sA.heap.push { cls := .type "dict", data := .dict #[] } } := ⟨_, rfl⟩
  obtain ⟨d, ed⟩ : ∃ d : Addr, d = sA.heap.objs.size := ⟨_, rfl⟩
  obtain ⟨HB, eH⟩ : ∃ HB : Hp, HB = upd HA d (newD tk) := ⟨_, rfl⟩
  have hB : sB.heap = sA.heap.push { cls := .type "dict", data := .dict #[] } := by rw [eB]
  have IB : Inv X pins σ HB sB := by
    rw [eB, eH, ed]
    exact IA.laid (t' := sA.toks) (fun b o e => Heap.get?_push_of_some _ e) (Nat.le_refl _) (newD_ok tk _ IA.big)
  have fB : ∀ b ∈ fp, FpOk X pins HB b ∧ b < sB.heap.objs.size := by
    intro b hb
    obtain ⟨o, e, _⟩ := T.obj _ _ tA b hb
    have lt := Heap.lt_size e
    refine ⟨⟨?_, (fA b hb).2⟩, by rw [hB, Heap.size_push]; exact Nat.lt_succ_of_lt lt⟩
    rw [eH, upd_ne (by rw [ed]; exact Nat.ne_of_lt lt)]
    exact (fA b hb).1
  have tB : tn 0 sB.heap := T.keep _ _ _ tA fun b _ o e => by rw [hB]; exact Heap.get?_push_of_some _ e
  have IC := block_start IB ok hN fB
  obtain ⟨pg, pt, pk, pv⟩ := hb sB HB sB.heap.objs.size (cellsFrom (sB.heap.objs.size + 1) scope.names (cloFrom X.env.cells scope.names [])) fp
  rw [← ed, ← eB]
  rw [← ed, ← eH] at w0
  rw [← ed] at turn
  show codeAny _ _ (.compStart (.DictComp kx vx [⟨tg, iter, ifs, 0⟩] scope pos) 0 (.ref it) (.ref d) (compEnvC scope (cellsFrom (sB.heap.objs.size + 1) scope.names (cloFrom X.env.cells scope.names [])) sB.heap.objs.size X.env))
    (compPost (model X.prog X.w) X.A X.xe use Qf (.ref d) sB.heap.objs.size) { sB with heap := pushCells (sB.heap.push { cls := .type "dict", data := .dict #[] }) scope.names }
  obtain ⟨ce, ece⟩ : ∃ ce : Env, ce = compEnvC scope (cellsFrom (sB.heap.objs.size + 1) scope.names (cloFrom X.env.cells scope.names [])) sB.heap.objs.size X.env := ⟨_, rfl⟩
  obtain ⟨sC, eC⟩ : ∃ sC : Shared, sC = { sB with heap := pushCells (sB.heap.push { cls := .type "dict", data := .dict #[] }) scope.names } := ⟨_, rfl⟩
  rw [← ece] at IC pg pt pk pv ⊢
  rw [← eC] at IC ⊢
  have loc : ce.locals = sB.heap.objs.size := by rw [ece]; rfl
  have tC : tn 0 sC.heap := T.keep _ _ _ tB fun b _ o e => by rw [eC]; exact pushCells_keeps _ _ _ _ (Heap.get?_push_of_some _ e)
  have free : ∀ {τ : L2.St} {K' : Hp} {s' : Shared}, Inv (X.blk sB HB scope ce fp) [] τ K' s' → (∀ b ∈ fp, K' b = none) → ∀ b ∈ fp, FpOk (X.blk sB HB scope ce fp) [] K' b := by
    intro τ K' s' J' hn b hb
    have z := J'.ok.exf b hb
    exact ⟨hn b hb, z.1, J'.ok.exfs b hb, .inl hb, z.2, fun p hp => by cases (show p ∈ ([] : List (Addr × Obj)) from hp)⟩
  have loop : codeAny (model X.prog X.w) X.A (.compLoop (.DictComp kx vx [⟨tg, iter, ifs, 0⟩] scope pos) 0 (.ref it) (.ref d) ce) (compPost (model X.prog X.w) X.A X.xe use Qf (.ref d) sB.heap.objs.size) sC := by
    refine compLoop_anyD (fun n s' => ∃ i K', Inv (X.blk sB HB scope ce fp) [] (wipe σ (own.map (·.2))) K' s' ∧ tn i s'.heap ∧ (∀ b ∈ fp, K' b = none) ∧ W i n K') ?_ m0 ⟨0, HB, IC, tC, fun b hb => (fB b hb).1.1, w0⟩
    rintro n sD ⟨i, HD, ID, tD, nD, wD⟩
    rcases turn i n HD wD with ⟨stop, qq⟩ | ⟨go, Nx, less, step⟩
    · refine thnF (T.done (X.blk sB HB scope ce fp) rfl rfl rfl hc i [] sD _ HD (fun _ _ => False) ID (free ID nD) tD stop) fun r sE hE => ?_
      obtain ⟨rfl, IE⟩ := hE
      have back : Inv X pins σ HD sE := IB.call' (ch := fp) IE.os IE.base IE.hok IE.bare fun b hb => let f := (fB b hb).1; ⟨f.2.2.2.1, f.2.1, f.2.2.2.2.1, f.2.2.2.2.2⟩
      have nC : HD sB.heap.objs.size = none := by rw [← loc]; exact IE.free
      obtain ⟨m, ns, _⟩ := IE.loc
      exact fin d sB.heap.objs.size sE m HD back qq (by rw [← loc]; exact ns) (IB.fpOk (Nat.le_refl _) nC)
    · refine thnF (T.item (X.blk sB HB scope ce fp) rfl rfl rfl hc i [] sD _ HD (fun _ _ => False) ID (free ID nD) tD go) fun r sE hE => ?_
      obtain ⟨u, rfl, hE⟩ := hE
      refine thnF hE fun _ sF hF => ?_
      obtain ⟨x, HF, IF, rF, yF, tF, nF⟩ := hF
      refine thnF (pg.run _ sF _ HF x u _ (IF.pinned (free IF nF) (T.obj _ _ tF)) rF (step x HF yF)) fun _ sG hG => ?_
      obtain ⟨σG, HG, IG, wG, qG⟩ := hG
      refine thnF (pt.run _ sG σG HG _ IG qG) fun b sI hI => ?_
      obtain ⟨HI, II, qI⟩ := hI
      -- what is left when a turn is over
      have over : ∀ {s' : Shared} {K' : Hp}, Inv (X.blk sB HB scope ce fp) ([] ++ pinsAt fp sF.heap) σG K' s' → Nx K' →
          ∃ m, m < n ∧ ∃ i K', Inv (X.blk sB HB scope ce fp) [] (wipe σ (own.map (·.2))) K' s' ∧ tn i s'.heap ∧ (∀ b ∈ fp, K' b = none) ∧ W i m K' := by
        intro s' K' J' nx
        obtain ⟨m', lt, w'⟩ := less K' nx
        have kept : ∀ b ∈ fp, ∀ o, sF.heap.get? b = some o → s'.heap.get? b = some o ∧ K' b = none := fun b hb o e => by
          have z := J'.pin (b, o) (List.mem_append_right _ (List.mem_append_right _ (mem_pinsAt hb e)))
          exact ⟨z.1, z.2.1⟩
        refine ⟨m', lt, i + 1, K', (J'.unpinned (pins := [])).weak (by rw [← wG, wipe_length]) (fun j v e => ?_), T.keep _ _ _ tF fun b hb o e => (kept b hb o e).1, fun b hb => ?_, w'⟩
        · rw [← wG] at e
          exact (wipe_some e).1
        · obtain ⟨o, e, _⟩ := T.obj _ _ tF b hb
          exact (kept b hb o e).2
      cases b with
      | false =>
        rw [if_neg Bool.false_ne_true] at qI ⊢
        exact over II qI
      | true =>
        rw [if_pos rfl] at qI ⊢
        refine thnF (pk.run _ sI σG HI _ II qI) fun ku sK hK => ?_
        obtain ⟨y, HK, IK, rK, qK⟩ := hK
        refine thnF (pv.run _ sK σG HK _ IK qK) fun vu sL hL => ?_
        obtain ⟨z, HL, IL, rL, H6, put, nx⟩ := hL
        exact set_put (X := X.blk sB HB scope ce fp) hu IL put rK rL fun s' J' => over J' nx
  exact codeAny_compStart_dict loop (T.self X.A 0 _ _ _ tC loop)
end
end VI

/-! VIv: dict comprehensions read by the interpreter. -/
namespace VI
open PySem PySem.Spec PyProof.Rows L2

theorem put_mem {κ : Type} [DecidableEq κ] {x y : κ} {d : D} : ∀ {ks : List κ} {ds : List D}, ks.length = ds.length → (y ∈ (put ks ds x d).1 ↔ y ∈ ks ∨ y = x)
  | [], [], _ => by simp [put]
  | [], _ :: _, e => by cases e
  | _ :: _, [], e => by cases e
  | k :: ks, c :: ds, e => by
    unfold put
    by_cases hk : k = x
    · rw [if_pos hk]
      subst hk
      constructor
      · intro z; exact .inl z
      · rintro (z | z)
        · exact z
        · rw [z]; exact List.mem_cons_self
    · rw [if_neg hk]
      have ih := put_mem (x := x) (y := y) (d := d) (ks := ks) (ds := ds) (by simpa using e)
      simp only [List.mem_cons, ih]
      constructor
      · rintro (z | z | z)
        · exact .inl (.inl z)
        · exact .inl (.inr z)
        · exact .inr z
      · rintro ((z | z) | z)
        · exact .inl z
        · exact .inr (.inl z)
        · exact .inr (.inr z)
theorem put_nodup {κ : Type} [DecidableEq κ] {x : κ} {d : D} : ∀ {ks : List κ} {ds : List D}, ks.length = ds.length → ks.Nodup → (put ks ds x d).1.Nodup
  | [], [], _, _ => by simp [put]
  | [], _ :: _, e, _ => by cases e
  | _ :: _, [], e, _ => by cases e
  | k :: ks, c :: ds, e, nd => by
    unfold put
    by_cases hk : k = x
    · rw [if_pos hk]; exact nd
    · rw [if_neg hk]
      have h := List.nodup_cons.mp nd
      refine List.nodup_cons.mpr ⟨fun z => ?_, put_nodup (by simpa using e) h.2⟩
      rcases (put_mem (by simpa using e)).mp z with z | z
      · exact h.1 z
      · exact hk z
theorem put_len {κ : Type} [DecidableEq κ] {x : κ} {d : D} : ∀ {ks : List κ} {ds : List D}, ks.length = ds.length → (put ks ds x d).1.length = (put ks ds x d).2.length
  | [], [], _ => rfl
  | [], _ :: _, e => by cases e
  | _ :: _, [], e => by cases e
  | k :: ks, c :: ds, e => by
    unfold put
    by_cases hk : k = x
    · rw [if_pos hk]; exact e
    · rw [if_neg hk]
      have := put_len (x := x) (d := d) (ks := ks) (ds := ds) (by simpa using e)
      simp [this]
/-- the dict that is filled -/
def DcR (ρ : Ro) (K : Fg) (H : Hp) (a : Addr) : Dc → Prop
  | .K ks ds => ∃ vs, H a = some (.dK (ks.zip vs)) ∧ ks.length = vs.length ∧ Rls ρ K H ds vs ∧ ks.Nodup
  | .T ks ds => ∃ vs, H a = some (.dT (ks.zip vs)) ∧ ks.length = vs.length ∧ Rls ρ K H ds vs ∧ ks.Nodup
  | .no => False
structure AccD (K : Fg) (ρs : Ro) (Hs : Hp) (D0 : Addr) (ρ : Ro) (h : IH) (H : Hp) (acc : Dc) : Prop where
  k : Stp ρs ρ Hs H
  S : SR ρ K h H
  av : ∀ j, ρ j ≠ some D0
  at_ : DcR ρ K H D0 acc
def stepD (t : Tgt) (vs : List Nat) (ec : Sig → IH → R Bool) (ek ev : Sig → IH → R D) (σ : Sig) : D → Dc → IH → R Dc := fun x acc h => match asgT t x (wipeI σ vs) with
  | none => .bad
  | some σ2 => (ec σ2 h).bd fun d h => match d with
    | true => (ek σ2 h).bd fun y h => (ev σ2 h).bd fun z h => match putDc acc y z with
      | some a => .ok a h
      | none => .bad
    | false => .ok acc h
section
variable {K : Fg} {ρs ρ ρ' : Ro} {Hs H H' : Hp} {h h' : IH} {D0 : Addr} {acc : Dc}
theorem AccD.go (a : AccD K ρs Hs D0 ρ h H acc) (k : Stp ρ ρ' H H') (S : SR ρ' K h' H') : AccD K ρs Hs D0 ρ' h' H' acc := by
  obtain ⟨a1, a2, a3, a4⟩ := a
  cases acc with
  | K ks ds =>
    obtain ⟨vs, e, z, r, nd⟩ := a4
    exact ⟨a1.trans k, S, k.away e a3, vs, k.oth _ _ e a3, z, r.mono k, nd⟩
  | T ks ds =>
    obtain ⟨vs, e, z, r, nd⟩ := a4
    exact ⟨a1.trans k, S, k.away e a3, vs, k.oth _ _ e a3, z, r.mono k, nd⟩
  | no => exact a4.elim
theorem AccD.yld (a : AccD K ρs Hs D0 ρ h H acc) (e : H' = H ∨ ∃ T u, H T = none ∧ H' = upd H T (.tup u)) : AccD K ρs Hs D0 ρ h H' acc ∧ Stp ρ ρ H H' := by
  rcases e with e | ⟨T, u, hT, e⟩
  · subst e; exact ⟨a, .refl _ _⟩
  · subst e; exact ⟨a.go (.new hT) (a.S.new hT), .new hT⟩
theorem AccD.add {y z : D} {u v : V} {acc' : Dc} (a : AccD K ρs Hs D0 ρ h H acc) (hD : Hs D0 = none) (ry : Rl ρ K H y u) (rz : Rl ρ K H z v) (e : putDc acc y z = some acc') :
    ∃ H6, DPut H D0 u v H6 ∧ AccD K ρs Hs D0 ρ h H6 acc' ∧ Mo ρ ρ H H6 := by
  obtain ⟨a1, a2, a3, a4⟩ := a
  cases acc with
  | no => exact a4.elim
  | K ks ds =>
    obtain ⟨vs, q, zl, r, nd⟩ := a4
    simp only [putDc] at e
    cases hy : keyOf y with
    | none => rw [hy] at e; cases e
    | some key =>
      rw [hy] at e
      dsimp only at e
      by_cases hz : ks.length < sizeLine
      · rw [if_pos hz] at e
        cases e
        have mu : Mut (H D0) := by rw [q]; trivial
        obtain ⟨us, h1, h2, h3, h4⟩ := put_ok (x := key) rz r zl nd
        have hl : (ks.zip vs).length < sizeLine := by rw [List.length_zip]; omega
        refine ⟨_, .inl ⟨_, key, q, keyOf_ok ry hy, hl, rfl⟩, ⟨a1.off hD, a2.off a3 mu, a3, us, ?_, h2, h3.mo (.off mu), put_nodup (zl.trans r.length.symm) nd⟩, .off mu⟩
        rw [upd_same, h1]
      · rw [if_neg hz] at e; cases e
  | T ks ds =>
    obtain ⟨vs, q, zl, r, nd⟩ := a4
    simp only [putDc] at e
    cases hy : tkOf y with
    | none => rw [hy] at e; cases e
    | some key =>
      rw [hy] at e
      dsimp only at e
      by_cases hz : ks.length < sizeLine
      · rw [if_pos hz] at e
        cases e
        have mu : Mut (H D0) := by rw [q]; trivial
        obtain ⟨us, h1, h2, h3, h4⟩ := put_ok (x := key) rz r zl nd
        have hl : (ks.zip vs).length < sizeLine := by rw [List.length_zip]; omega
        obtain ⟨c, rfl, hc⟩ := tkOf_ok ry hy
        refine ⟨_, .inr ⟨_, key, c, q, rfl, hc, hl, rfl⟩, ⟨a1.off hD, a2.off a3 mu, a3, us, ?_, h2, h3.mo (.off mu), put_nodup (zl.trans r.length.symm) nd⟩, .off mu⟩
        rw [upd_same, h1]
      · rw [if_neg hz] at e; cases e
theorem AccD.start (tk : Bool) (S : SR ρ K h H) (hD : H D0 = none) : AccD K ρ H D0 ρ h (upd H D0 (newD tk)) (newDc tk) := by
  refine ⟨.new hD, S.new hD, S.away hD, ?_⟩
  cases tk with
  | true => exact ⟨[], upd_same, rfl, .nil, List.nodup_nil⟩
  | false => exact ⟨[], upd_same, rfl, .nil, List.nodup_nil⟩
theorem AccD.fin {Q : VK} (a : AccD K ρs Hs D0 ρ h H acc) (hD : Hs D0 = none) (p : Post (RvE K) K ρs Hs Q (mkD acc h)) : Q (.ref D0) H := by
  obtain ⟨k, S, n, a4⟩ := a
  have l := S.le_ext D0
  have st : ∀ {ob : Ob}, ObR ρ K H D0 ob → (∃ u, H D0 = some u) → Stp ρs (ext ρ h.n D0) Hs H := fun _ _ => ⟨fun i a z => l _ _ (k.le i a z), fun i a z => by
    unfold ext at z
    by_cases hi : i = h.n
    · rw [if_pos hi] at z; cases z; exact .inr hD
    · rw [if_neg hi] at z; exact k.nw i a z, k.tup, k.frz, k.oth, k.gr⟩
  cases acc with
  | no => exact a4.elim
  | K ks ds =>
    obtain ⟨vs, q, zl, r, nd⟩ := a4
    have x : ObR ρ K H D0 (.dK ks ds) := ⟨vs, q, zl, r⟩
    exact p (ext ρ h.n D0) H _ (st x ⟨_, q⟩) (S.adopt q n x) (.ref (by unfold ext; rw [if_pos rfl]))
  | T ks ds =>
    obtain ⟨vs, q, zl, r, nd⟩ := a4
    have x : ObR ρ K H D0 (.dT ks ds) := ⟨vs, q, zl, r⟩
    exact p (ext ρ h.n D0) H _ (st x ⟨_, q⟩) (S.adopt q n x) (.ref (by unfold ext; rw [if_pos rfl]))
end
section
variable {X : Cx} {t : Tgt} {es : Sig → IH → R (List D)} {ek ev : Sig → IH → R D} {ec : Sig → IH → R Bool}
theorem turn_D {K : Fg} {ρs ρ : Ro} {Hs H' : Hp} {h : IH} {D0 : Addr} {acc : Dc} {x : V} {d : D} {σI : Sig} {σ : L2.St} {vs : List Nat} {β : Type} {F : Dc → IH → R β} {P : R β → Prop} {Nx : Hp → Prop}
    (hP : ¬ P .bad) (hD : Hs D0 = none) (a : AccD K ρs Hs D0 ρ h H' acc) (L : SlR ρ K H' σI σ) (r : Rl ρ K H' d x) (ht : ∀ i ∈ slotsT t, i ∈ vs)
    (p : P ((stepD t vs ec ek ev σI d acc h).bd F)) (nx : ∀ ρ' h' H2 acc', AccD K ρs Hs D0 ρ' h' H2 acc' → P (F acc' h') → Nx H2) :
    rG K t x (wipe σ vs) H' fun σ2 H2 => wipe σ2 vs = wipe σ vs ∧ tT K ec σ2 H2 fun b H3 => if b = true then tE K ek σ2 H3 fun y H4 => tE K ev σ2 H4 fun z H5 => ∃ H6, DPut H5 D0 y z H6 ∧ Nx H6 else Nx H3 := by
  unfold stepD at p
  cases ha : asgT t d (wipeI σI vs) with
  | none => rw [ha] at p; exact absurd p hP
  | some σ2I =>
    rw [ha] at p
    dsimp only at p
    refine ⟨ρ, wipeI σI vs, d, σ2I, L.wipe vs, r, ha, fun σ2 L2 on => ⟨?_, ρ, h, σ2I, a.S, L2, ?_⟩⟩
    · rw [(on.mono ht).wipe, wipe_twice]
    · cases hc : ec σ2I h with
      | bad => rw [hc] at p; exact absurd p hP
      | ok b h1 =>
        rw [hc] at p
        intro ρ1 H1 b' k1 S1 eb
        cases (show b = b' from eb)
        have a1 := a.go k1 S1
        cases b with
        | false => rw [if_neg Bool.false_ne_true]; exact nx ρ1 h1 H1 acc a1 p
        | true =>
          rw [if_pos rfl]
          refine ⟨ρ1, h1, σ2I, S1, L2.mono k1, ?_⟩
          simp only [R.bd] at p
          cases he : ek σ2I h1 with
          | bad => rw [he] at p; exact absurd p hP
          | ok y h2 =>
            rw [he] at p
            intro ρ2 H2 v k2 S2 ry
            have a2 := a1.go k2 S2
            dsimp only at p
            refine ⟨ρ2, h2, σ2I, S2, (L2.mono k1).mono k2, ?_⟩
            cases hf : ev σ2I h2 with
            | bad => rw [hf] at p; exact absurd p hP
            | ok z h3 =>
              rw [hf] at p
              intro ρ3 H3 w k3 S3 rz
              have a3 := a2.go k3 S3
              dsimp only at p
              cases hp : putDc acc y z with
              | none => rw [hp] at p; exact absurd p hP
              | some acc' =>
                rw [hp] at p
                obtain ⟨H6, g, a4, _⟩ := a3.add hD (Rl.mono k3 ry) rz hp
                exact ⟨H6, g, nx ρ3 h3 H6 acc' a4 p⟩
theorem dc_red {K : Fg} {tk : Bool} {vs : List Nat} (ht : ∀ i ∈ slotsT t, i ∈ vs) : ∀ σ H Q, tE K (fun σ h => (es σ h).bd fun xs h => (turns (stepD t vs ec ek ev σ) xs (newDc tk) h).bd fun a h => mkD a h) σ H Q →
      tDx tk (iI K es) (rG K t) (tT K ec) (tE K ek) (tE K ev) vs σ H Q := by
  intro σ H Q ⟨ρ, h, σI, S, L, p⟩
  refine rd_mono (stp (Rv := RvI K) S L p) fun J H1 ⟨ρ1, xs, h1, k1, S1, L1, w, p1⟩ => fun D0 hD => ?_
  obtain ⟨G, Y, w, wG, wY⟩ := w
  refine walk_W w (B := fun Nx x H' => rG K t x (wipe σ vs) H' fun σ2 H2 => wipe σ2 vs = wipe σ vs ∧ tT K ec σ2 H2 fun b H3 =>
      if b = true then tE K ek σ2 H3 fun y H4 => tE K ev σ2 H4 fun z H5 => ∃ H6, DPut H5 D0 y z H6 ∧ Nx H6 else Nx H3)
    (fun i H' => ∃ ρ' h' acc, AccD K ρ1 H1 D0 ρ' h' H' acc ∧ Post (RvE K) K ρ1 H1 Q ((turns (stepD t vs ec ek ev σI) (xs.drop i) acc h').bd fun a h => mkD a h))
    ⟨ρ1, h1, newDc tk, .start tk S1 hD, p1⟩ (fun i H' _ ⟨ρ', h', acc, a, _⟩ => wG ρ' H' a.k.mo) ?_ ?_
  · rintro i x H2 H' hlt ⟨ρ', h', acc, a, pp⟩ y
    obtain ⟨d, hd, ed⟩ := drop_cons hlt
    obtain ⟨hy, rx⟩ := wY ρ' i H2 x H' d a.k.mo hd y
    obtain ⟨a2, k2⟩ := a.yld hy
    rw [ed] at pp
    refine turn_D (P := fun r => Post (RvE K) K ρ1 H1 Q r) (F := fun acc h => (turns (stepD t vs ec ek ev σI) (xs.drop (i + 1)) acc h).bd fun a h => mkD a h) (fun z => z) hD a2 (L1.mono a2.k) rx ht ?_ fun ρ3 h3 H3 acc3 a3 p3 => ⟨ρ3, h3, acc3, a3, p3⟩
    simp only [turns] at pp
    cases hst : stepD t vs ec ek ev σI d acc h' with
    | bad => rw [hst] at pp; exact pp
    | ok acc' h'' => rw [hst] at pp; exact pp
  · rintro H' ⟨ρ', h', acc, a, pp⟩
    rw [List.drop_length] at pp
    exact a.fin hD pp
variable {kx vx tg iter : Expr} {ifs : List Expr} {scope : Scope} {own : List (Str × Nat)} {pos : Pos} {tk : Bool}
/-- as a value -/
theorem s_dc (hu : X.A.units + 1 < cLine) (hc : X.calm = true) (hN : X.N.Nodup) (hi : PI X tg iter (iI X.K es)) (ok : BlkOk X.N X.env.scope scope own) (ht : ∀ i ∈ slotsT t, i ∈ own.map (·.2)) (hs : ∀ x, foldedSetIterable iter X.env x = pure x)
    (hb : ∀ (s : Shared) (H : Hp) (C : Addr) (cl : List (Str × Addr)) (fp : List Addr), PG (X.blk s H scope (compEnvC scope cl C X.env) fp) tg (rG X.K t) ∧ PTs (X.blk s H scope (compEnvC scope cl C X.env) fp) ifs (tT X.K ec) ∧ PE (X.blk s H scope (compEnvC scope cl C X.env) fp) kx (tE X.K ek) ∧ PE (X.blk s H scope (compEnvC scope cl C X.env) fp) vx (tE X.K ev)) :
    PE X (.DictComp kx vx [⟨tg, iter, ifs, 0⟩] scope pos) (tE X.K fun σ h => (es σ h).bd fun xs h => (turns (stepD t (own.map (·.2)) ec ek ev σ) xs (newDc tk) h).bd fun a h => mkD a h) := by
  refine ⟨fun pins s σ H Q I h => ?_⟩
  rw [arm_eval_DictComp]
  refine dx_core (tk := tk) hu hc hN I hi ok hs hb (dc_red ht σ H Q h) fun D C s' m H' I' q hn f => ⟨m, hn, fun h'' sb => ?_⟩
  obtain ⟨f0, f1, f2, f3, f4, f5⟩ := f
  exact ⟨.ref D, H', I'.turned (t' := s'.toks) (fun b o hb e => (sb.2 b hb).trans e) f0 f1 f3 f4 f5, rfl, q⟩
/-- name = {..}, the name a local on the same row -/
theorem z_setDc {i : Nat} {y : Str} {py spos : Pos} (hu : X.A.units + 1 < cLine) (hc : X.calm = true) (hN : X.N.Nodup) (hy : X.N[i]? = some y) (hyl : X.env.scope.names.lookup y = some .local) (hsw : swapsWith (.DictComp kx vx [⟨tg, iter, ifs, 0⟩] scope pos) (some (.Name y py)) spos.line X.env = pure true)
    (hi : PI X tg iter (iI X.K es)) (ok : BlkOk X.N X.env.scope scope own) (ht : ∀ i ∈ slotsT t, i ∈ own.map (·.2)) (hs : ∀ x, foldedSetIterable iter X.env x = pure x)
    (hb : ∀ (s : Shared) (H : Hp) (C : Addr) (cl : List (Str × Addr)) (fp : List Addr), PG (X.blk s H scope (compEnvC scope cl C X.env) fp) tg (rG X.K t) ∧ PTs (X.blk s H scope (compEnvC scope cl C X.env) fp) ifs (tT X.K ec) ∧ PE (X.blk s H scope (compEnvC scope cl C X.env) fp) kx (tE X.K ek) ∧ PE (X.blk s H scope (compEnvC scope cl C X.env) fp) vx (tE X.K ev)) :
    PS X (.Assign [.Name y py] (.DictComp kx vx [⟨tg, iter, ifs, 0⟩] scope pos) spos) (tS X.K fun σ h => ((es σ h).bd fun xs h => (turns (stepD t (own.map (·.2)) ec ek ev σ) xs (newDc tk) h).bd fun a h => mkD a h).bd fun x h => match asgT (.nm i) x σ with | some σ' => .ok (.nx σ') h | none => .bad) := by
  refine ⟨fun pins s σ H D I h => ?_⟩
  rw [exec_Assign_Name_used _ _ _ _ hsw]
  refine wpAny_bind (wpAny_standAt (wpAny_bind ?_))
  show wpAny _ X.A (do let _ ← comprehension (.DictComp kx vx [⟨tg, iter, ifs, 0⟩] scope pos) scope X.env (firstIterPos [⟨tg, iter, ifs, 0⟩] pos) newDict false (eval iter X.env) (some (assign (.Name y py) X.env))) _ _ s
  refine wpAny_bind (thn (dx_core (tk := tk) (Qf := fun _ s' => SP X pins D .next s') hu hc hN I hi ok hs hb (dc_red ht σ H _ (asg_one h)) fun d C s' m H' I' q hn f => ?_) fun _ s' hq => wpAny_pure (wpAny_pure hq))
  show wpAny _ _ (assign (.Name y py) X.env (.ref d)) _ _ _
  refine wpAny_assign_Name (store_ok2 (v := V.ref d) I' hN hy (.inl hyl) rfl (fun s2 I2 z => ?_) (.inr hyl))
  obtain ⟨a, sb, ha⟩ := z
  obtain ⟨f0, f1, f2, f3, f4, f5⟩ := f
  have haC : C ≠ a := ha.elim (fun z => by rw [z]; exact f1) fun z e => f4 y a z e.symm
  exact ⟨m, hn.sameBut sb haC, fun h3 sb3 => ⟨_, H', I2.turned (t' := s2.toks) (fun b o hb e => (sb3.2 b hb).trans e) f0 f1 f3 f4 f5, q⟩⟩
end
end VI

/-! VIo: the checker: does this syntax of ours stand for that expression of the text. -/
namespace VI
open PySem PySem.Spec PyProof.Rows L2

/-- a def of the text -/
structure FT where
  x : Str
  ps : List Str
  N : List Str
  st : Stmt
  fn : Fn
structure Tab where
  F : List FT
  G : List (Str × D)
  B : List Str
  /-- the ways to call with keywords: the def, the number of plain arguments, the keywords, the order -/
  W : List (Nat × Nat × List Str × List Nat)
  GD : List (Str × List (Str × D))

/-! ### views -/
def vName : Expr → Option (Str × Pos) | .Name x p => some (x, p) | _ => none
def vConst : Expr → Option Const | .Constant c _ _ => some c | _ => none
def vBin : Expr → Option (Expr × Operator × Expr) | .BinOp a o b _ => some (a, o, b) | _ => none
def vUn : Expr → Option (UnaryOp × Expr) | .UnaryOp o a _ => some (o, a) | _ => none
def vBool : Expr → Option (BoolOp × List Expr × Pos) | .BoolOp o es p => some (o, es, p) | _ => none
def vCmp : Expr → Option (Expr × List CmpOp × List Expr) | .Compare a o b _ => some (a, o, b) | _ => none
def vIf : Expr → Option (Expr × Expr × Expr) | .IfExp c a b _ => some (c, a, b) | _ => none
def vTup : Expr → Option (List Expr) | .Tuple es _ _ => some es | _ => none
def vLst : Expr → Option (List Expr) | .List es _ => some es | _ => none
def vDict : Expr → Option (List (Option Expr) × List Expr) | .Dict a b _ => some (a, b) | _ => none
def vSub : Expr → Option (Expr × Expr) | .Subscript a i _ => some (a, i) | _ => none
def vSlc : Expr → Option (Option Expr × Option Expr × Option Expr) | .Slice a b c _ => some (a, b, c) | _ => none
def vCall : Expr → Option (Expr × List Expr × List Keyword × Pos) | .Call f es ks p => some (f, es, ks, p) | _ => none
def vAttr : Expr → Option (Expr × Str × Pos) | .Attribute o m p => some (o, m, p) | _ => none
def vLc : Expr → Option (Expr × List Comprehension × Scope × Pos) | .ListComp e g s p => some (e, g, s, p) | _ => none
def vDc : Expr → Option (Expr × Expr × List Comprehension × Scope × Pos) | .DictComp k v g s p => some (k, v, g, s, p) | _ => none
theorem vName_ok {e : Expr} {y} (h : vName e = some y) : e = .Name y.1 y.2 := by cases e <;> simp [vName] at h; subst h; rfl
theorem vConst_ok {e : Expr} {y} (h : vConst e = some y) : ∃ k p, e = .Constant y k p := by cases e <;> simp [vConst] at h; subst h; exact ⟨_, _, rfl⟩
theorem vBin_ok {e : Expr} {y} (h : vBin e = some y) : ∃ p, e = .BinOp y.1 y.2.1 y.2.2 p := by cases e <;> simp [vBin] at h; subst h; exact ⟨_, rfl⟩
theorem vUn_ok {e : Expr} {y} (h : vUn e = some y) : ∃ p, e = .UnaryOp y.1 y.2 p := by cases e <;> simp [vUn] at h; subst h; exact ⟨_, rfl⟩
theorem vBool_ok {e : Expr} {y} (h : vBool e = some y) : e = .BoolOp y.1 y.2.1 y.2.2 := by cases e <;> simp [vBool] at h; subst h; rfl
theorem vCmp_ok {e : Expr} {y} (h : vCmp e = some y) : ∃ p, e = .Compare y.1 y.2.1 y.2.2 p := by cases e <;> simp [vCmp] at h; subst h; exact ⟨_, rfl⟩
theorem vIf_ok {e : Expr} {y} (h : vIf e = some y) : ∃ p, e = .IfExp y.1 y.2.1 y.2.2 p := by cases e <;> simp [vIf] at h; subst h; exact ⟨_, rfl⟩
theorem vTup_ok {e : Expr} {y} (h : vTup e = some y) : ∃ k p, e = .Tuple y k p := by cases e <;> simp [vTup] at h; subst h; exact ⟨_, _, rfl⟩
theorem vLst_ok {e : Expr} {y} (h : vLst e = some y) : ∃ p, e = .List y p := by cases e <;> simp [vLst] at h; subst h; exact ⟨_, rfl⟩
theorem vDict_ok {e : Expr} {y} (h : vDict e = some y) : ∃ p, e = .Dict y.1 y.2 p := by cases e <;> simp [vDict] at h; subst h; exact ⟨_, rfl⟩
theorem vSub_ok {e : Expr} {y} (h : vSub e = some y) : ∃ p, e = .Subscript y.1 y.2 p := by cases e <;> simp [vSub] at h; subst h; exact ⟨_, rfl⟩
theorem vSlc_ok {e : Expr} {y} (h : vSlc e = some y) : ∃ p, e = .Slice y.1 y.2.1 y.2.2 p := by cases e <;> simp [vSlc] at h; subst h; exact ⟨_, rfl⟩
theorem vCall_ok {e : Expr} {y} (h : vCall e = some y) : e = .Call y.1 y.2.1 y.2.2.1 y.2.2.2 := by cases e <;> simp [vCall] at h; subst h; rfl
theorem vAttr_ok {e : Expr} {y} (h : vAttr e = some y) : e = .Attribute y.1 y.2.1 y.2.2 := by cases e <;> simp [vAttr] at h; subst h; rfl
theorem vLc_ok {e : Expr} {y} (h : vLc e = some y) : e = .ListComp y.1 y.2.1 y.2.2.1 y.2.2.2 := by cases e <;> simp [vLc] at h; subst h; rfl
theorem vDc_ok {e : Expr} {y} (h : vDc e = some y) : e = .DictComp y.1 y.2.1 y.2.2.1 y.2.2.2.1 y.2.2.2.2 := by cases e <;> simp [vDc] at h; subst h; rfl

/-! ### names -/
def chkV (C : Ctx) (i : Nat) (x : Str) : Bool := decide (C.N[i]? = some x) && (match C.sc.names.lookup x with | some .local => true | some .cell => true | some .free => true | _ => false) && !(x == "__debug__") && !(x == "__classdict__")
def chkGl (C : Ctx) (x : Str) : Bool := decide (C.sc.names.lookup x = some .globalImplicit) && !(x == "__debug__")
def chkB (T : Tab) (C : Ctx) (x : Str) : Bool := chkGl C x && T.B.contains x && !(x == "__name__")
def cstOk (d : D) (c : Const) : Bool :=
  match d, c with
  | .non, .none => true
  | .bl b, .bool c => b == c
  | .int i, .int j => decide (i = j)
  | .str s, .str t => decide (s = t)
  | _, _ => false
/-- a subscript that is no slice -/
def plainIx : Expr → Bool
  | .Slice .. => false
  | .Tuple .. => true
  | .Starred .. => false
  | _ => true
def notSet : Expr → Bool
  | .Set .. => false
  | _ => true
/-- no form of its own as a test -/
def plainTest : Expr → Bool
  | .BoolOp .. => false
  | .UnaryOp .. => false
  | .IfExp .. => false
  | .Compare .. => false
  | .NamedExpr .. => false
  | _ => true
/-- the context of a comprehension's block -/
def Ctx.blk (C : Ctx) (scope : Scope) : Ctx := ⟨C.N, relS scope C.sc, fun x => scope.names.lookup x == some .cell⟩
def bltName : Blt → Option Str
  | .len => some "len"
  | .all => some "all"
  | .any => some "any"
  | .absI => some "abs"
  | .intI => some "int"
  | .tuple => some "tuple"
  | .list => some "list"
  | .sorted => some "sorted"
  | .reprV => some "repr"
  | _ => none
def chkTys (T : Tab) (C : Ctx) : List String → List Expr → Bool
  | [], [] => true
  | u :: us, e :: es => (match vName e with | some (x, _) => decide (bootBuiltins x = some (.type u)) && chkB T C x && isiTs.contains u | none => false) && chkTys T C us es
  | _, _ => false
def chkTy (T : Tab) (C : Ctx) (us : List String) (e : Expr) : Bool :=
  match vName e with
  | some _ => chkTys T C us [e] && us.length == 1
  | none => match vTup e with
    | some es => chkTys T C us es && decide (us.length ≤ 10)
    | none => false
def isYes : IT → Bool
  | .yes => true
  | _ => false
/-- the arguments of a call -/
def argsIn : List Expr → List Expr
  | [.Call _ as _ _] => as
  | _ => []
def argsOf (b : Blt) (ls : List Expr) : List Expr := match b with
  | .isi _ => ls.take 1
  | .lenset => argsIn ls
  | _ => ls
def kBlt (T : Tab) (C : Ctx) (b : Blt) (x : Str) (ls : List Expr) : Bool := match b with
  | .isi us => (match ls with
    | [_, r] => decide (x = "isinstance") && chkB T C x && noStar r && chkTy T C us r
    | _ => false)
  | .lenset => (match ls with
    | [.Call (.Name y _) [_] [] _] => decide (x = "len") && chkB T C x && decide (y = "set") && chkB T C y
    | _ => false)
  | _ => decide (bltName b = some x) && chkB T C x && !ls.isEmpty
def kMth (m : Mth) (n : Str) (ls : List Expr) : Bool := match m with
  | .append => decide (n = "append") && ls.length == 1
  | .get1 => decide (n = "get") && ls.length == 1
  | .get2 => decide (n = "get") && ls.length == 2
  | _ => false
mutual
def chkE (T : Tab) : IE → Ctx → Expr → Bool
  | .nev, _, _ => true
  | .cst d, _, e => match vConst e with | some c => cstOk d c | none => false
  | .var i, C, e => match vName e with | some (x, _) => chkV C i x | none => false
  | .glb g, C, e => match vName e with | some (x, _) => chkGl C x && (match T.G[g]? with | some y => decide (y.1 = x) | none => false) | none => false
  | .gidx g i, C, e => match vSub e with
    | some (l, r) => (match vName l with | some (x, _) => chkGl C x && (match T.GD[g]? with | some y => decide (y.1 = x) | none => false) && chkE T i C r && plainIx r | none => false)
    | none => false
  | .bin o a b, C, e => match vBin e with | some (l, p, r) => decide (o = p) && chkE T a C l && chkE T b C r | none => false
  | .neg a, C, e => match vUn e with | some (.USub, l) => chkE T a C l | _ => false
  | .cmp o a b, C, e => match vCmp e with | some (l, [p], [r]) => decide (o = p) && chkE T a C l && chkE T b C r && notSet r | _ => false
  | .chn o o' a b c, C, e => match vCmp e with | some (l, [p, p'], [r, r']) => decide (o = p) && decide (o' = p') && chkE T a C l && chkE T b C r && chkE T c C r' && notSet r' | _ => false
  | .andV a b, C, e => match vBool e with
    | some (.And, [l, r], _) => chkE T a C l && chkE T b C r
    | some (.And, l :: r :: q :: rest, p) => chkE T a C l && chkE T b C (.BoolOp .And (r :: q :: rest) p)
    | _ => false
  | .orV a b, C, e => match vBool e with
    | some (.Or, [l, r], _) => chkE T a C l && chkE T b C r
    | some (.Or, l :: r :: q :: rest, p) => chkE T a C l && chkE T b C (.BoolOp .Or (r :: q :: rest) p)
    | _ => false
  | .notV a, C, e => match vUn e with | some (.Not, l) => chkE T a C l | _ => false
  | .ifx c a b, C, e => match vIf e with | some (t, l, r) => chkT T c C t && chkE T a C l && chkE T b C r | none => false
  | .tup es, C, e => match vTup e with | some ls => chkEs T es C ls | none => false
  | .lst _ es, C, e => match vLst e with | some ls => chkEs T es C ls | none => false
  | .idx a i, C, e => match vSub e with | some (l, r) => chkE T a C l && chkE T i C r && plainIx r | none => false
  | .slc a lo hi, C, e => match vSub e with
    | some (l, r) => (match vSlc r with | some (x, y, none) => chkE T a C l && chkO T lo C x && chkO T hi C y | _ => false)
    | none => false
  | .rev a, C, e => match vSub e with
    | some (l, r) => (match vSlc r with
      | some (none, none, some m) => (match vUn m with | some (.USub, one) => (match vConst one with | some (.int 1) => chkE T a C l | _ => false) | _ => false)
      | _ => false)
    | none => false
  | .call f es, C, e => match vCall e with
    | some (g, ls, [], _) => (match vName g with
      | some (x, _) => chkGl C x && (match T.F[f]? with | some t => decide (t.x = x) && decide (ls.length = t.ps.length) | none => false) && chkEs T es C ls
      | none => false)
    | _ => false
  | .callk f ks pm es kv, C, e => match vCall e with
    | some (g, ls, kws, _) => (match vName g with
      | some (x, _) => chkGl C x && (match T.F[f]? with | some t => decide (t.x = x) && decide (pm.length = t.ps.length) | none => false) && decide ((f, ls.length, ks, pm) ∈ T.W) && pm.all (fun k => decide (k < ls.length + ks.length)) &&
          decide (kws.map (·.arg) = ks.map some) && chkEs T es C ls && chkEs T kv C (kws.map (·.value))
      | none => false)
    | none => false
  | .blt b es, C, e => match vCall e with
    | some (g, ls, [], _) => (match vName g with
      | some (x, _) => kBlt T C b x ls && chkEs T es C (argsOf b ls)
      | none => false)
    | _ => false
  | .mth m o es, C, e => match vCall e with
    | some (g, ls, [], cp) => (match vAttr g with
      | some (q, n, ap) => plainBase q && (ap.endLine == cp.line) && chkE T o C q && kMth m n ls && chkEs T es C ls
      | none => false)
    | _ => false
  | .lc1 _ own elt s t c, C, e => match vLc e with
    | some (x, [⟨tg, it, ifs, 0⟩], scope, _) => blkC C.N C.sc scope own && chkI T s C tg it && notSet it && (slotsT t).all (fun i => (own.map (·.2)).contains i) &&
        chkG (C.blk scope) t tg && (match ifs with | [] => isYes c | [q] => chkT T c (C.blk scope) q | _ => false) && chkE T elt (C.blk scope) x
    | _ => false
  | .lc2 _ own ow1 elt s t c s1 t1 c1, C, e => match vLc e with
    | some (x, [⟨tg, it, ifs, 0⟩, ⟨tg1, it1, ifs1, 0⟩], scope, _) => blkC C.N C.sc scope own && chkI T s C tg it && notSet it && notSet it1 && (slotsT t).all (fun i => (own.map (·.2)).contains i) && (slotsT t1).all (fun i => ow1.contains i) && ow1.all (fun i => (own.map (·.2)).contains i) &&
        chkG (C.blk scope) t tg && chkG (C.blk scope) t1 tg1 && (match ifs with | [] => isYes c | [q] => chkT T c (C.blk scope) q | _ => false) && (match ifs1 with | [] => isYes c1 | [q] => chkT T c1 (C.blk scope) q | _ => false) &&
        chkI T s1 (C.blk scope) tg1 it1 && chkE T elt (C.blk scope) x
    | _ => false
  | .dc1 _ _ own k v s t c, C, e => match vDc e with
    | some (kx, vx, [⟨tg, it, ifs, 0⟩], scope, _) => blkC C.N C.sc scope own && chkI T s C tg it && notSet it && (slotsT t).all (fun i => (own.map (·.2)).contains i) &&
        chkG (C.blk scope) t tg && (match ifs with | [] => isYes c | [q] => chkT T c (C.blk scope) q | _ => false) && chkE T k (C.blk scope) kx && chkE T v (C.blk scope) vx
    | _ => false
  | .dict0 _, _, e => match vDict e with | some ([], []) => true | _ => false
def chkEs (T : Tab) : IEs → Ctx → List Expr → Bool
  | .nil, _, [] => true
  | .nil, _, _ :: _ => false
  | .cons _ _, _, [] => false
  | .cons e r, C, l :: ls => noStar l && chkE T e C l && chkEs T r C ls
def chkO (T : Tab) : IO → Ctx → Option Expr → Bool
  | .none, _, o => o.isNone
  | .some e, C, o => match o with | some l => chkE T e C l | none => false
def chkT (T : Tab) : IT → Ctx → Expr → Bool
  | .yes, _, _ => false
  | .tru a, C, e => plainTest e && chkE T a C e
  | .conj a b, C, e => match vBool e with
    | some (.And, [l, r], _) => chkT T a C l && chkT T b C r
    | some (.And, l :: r :: q :: rest, p) => chkT T a C l && chkT T b C (.BoolOp .And (r :: q :: rest) p)
    | _ => false
  | .disj a b, C, e => match vBool e with
    | some (.Or, [l, r], _) => chkT T a C l && chkT T b C r
    | some (.Or, l :: r :: q :: rest, p) => chkT T a C l && chkT T b C (.BoolOp .Or (r :: q :: rest) p)
    | _ => false
  | .neg a, C, e => match vUn e with | some (.Not, l) => chkT T a C l | _ => false
  | .cmp o a b, C, e => match vCmp e with | some (l, [p], [r]) => decide (o = p) && chkE T a C l && chkE T b C r && notSet r | _ => false
  | .chn o o' a b c, C, e => match vCmp e with | some (l, [p, p'], [r, r']) => decide (o = p) && decide (o' = p') && chkE T a C l && chkE T b C r && chkE T c C r' && notSet r' | _ => false
def chkI (T : Tab) : Src → Ctx → Expr → Expr → Bool
  | .val a, C, _, e => chkE T a C e
  | .rng1 a, C, _, e => match vCall e with
    | some (g, [l], [], _) => (match vName g with | some (x, _) => decide (x = "range") && chkB T C x && chkE T a C l && noStar l | none => false)
    | _ => false
  | .rng2 a b, C, _, e => match vCall e with
    | some (g, [l, r], [], _) => (match vName g with | some (x, _) => decide (x = "range") && chkB T C x && chkE T a C l && noStar l && chkE T b C r && noStar r | none => false)
    | _ => false
  | .enm a, C, tg, e => match vCall e with
    | some (g, [l], [], _) => (match vName g with | some (x, _) => decide (x = "enumerate") && chkB T C x && chkE T a C l && noStar l && (vTup tg).isSome | none => false)
    | _ => false
  | _, _, _, _ => false
end
end VI

/-! VIp: the checker is sound: expressions. -/
namespace VI
open PySem PySem.Spec PyProof.Rows L2

/-- the promise of a def of the table -/
def spC (K : Fg) (Γ : En) (f np : Nat) : Sp := fun vs H Q _ => vs.length = np ∧ ∃ ρ h ds, SR ρ K h H ∧ Rls ρ K H ds vs ∧ Post (RvE K) K ρ H Q (Γ.call f ds h)
/-- a way to call with keywords -/
def KB (fd : FuncData) (ps : List Str) (n : Nat) (ks : List Str) (pm : List Nat) : Prop := ∀ us ws : List Value, us.length = n → ws.length = ks.length → bindArgs fd ⟨us, ks.zip ws⟩ = pure (ps.zip (pick pm (us ++ ws)))
structure GX (T : Tab) (Γ : En) (C : Ctx) (X : Cx) : Prop where
  ok : CxOk C X
  xe : X.xe = fun _ _ => False
  hu : X.A.units + 65 < cLine
  gu : X.A.guards = some []
  gl : ∀ g y, T.G[g]? = some y → Γ.glob g = y.2 ∧ ∃ u v, X.mg y.1 = some u ∧ RelV v u ∧ ∀ ρ H, Rl ρ X.K H y.2 v
  bl : ∀ x ∈ T.B, X.mg x = none
  fn : ∀ f t, T.F[f]? = some t → ∃ k fa fd, FnG X.prog X.w X.K X.mg X.base CX0 k fa fd t.ps (spC X.K Γ f t.ps.length) ∧ Room k X.A ∧ X.mg t.x = some (.ref fa) ∧ PySem.W.keepIn X.K (.ref fa) = true ∧ Binds X.K fd t.ps [] ∧ ∀ n ks pm, (f, n, ks, pm) ∈ T.W → KB fd t.ps n ks pm
  gd : ∀ g y, T.GD[g]? = some y → Γ.gd g = y.2 ∧ ∃ a, X.mg y.1 = some (.ref a) ∧ ∀ z d, y.2.lookup z = some d → ∃ v, KDct X.K X.w a z v ∧ ∀ ρ H, Rl ρ X.K H d v
section
variable {T : Tab} {Γ : En} {C : Ctx} {X : Cx}
theorem GX.blk (G : GX T Γ C X) (scope : Scope) (s : Shared) (H : Hp) (cl : List (Str × Addr)) (a : Addr) (fp : List Addr) : GX T Γ (C.blk scope) (X.blk s H scope (compEnvC scope cl a X.env) fp) where
  ok := ⟨G.ok.N, G.ok.nd, by show relS scope X.env.scope = relS scope C.sc; rw [G.ok.sc], rfl, G.ok.calm⟩
  xe := rfl
  hu := G.hu
  gu := G.gu
  gl := G.gl
  bl := G.bl
  fn := G.fn
  gd := G.gd
theorem GX.nd (G : GX T Γ C X) : X.N.Nodup := by rw [G.ok.N]; exact G.ok.nd
theorem GX.glob (G : GX T Γ C X) {x : Str} (h : chkGl C x = true) : Gl X x ∧ (x == ("__debug__" : Str)) = false := by
  unfold chkGl at h
  simp only [Bool.and_eq_true, decide_eq_true_eq, Bool.not_eq_true'] at h
  refine ⟨?_, h.2⟩
  show X.env.scope.names.lookup x = _
  rw [G.ok.sc]
  exact h.1
theorem GX.blt (G : GX T Γ C X) {x : Str} (h : chkB T C x = true) : Gl X x ∧ X.mg x = none ∧ x ≠ "__name__" ∧ (x == ("__debug__" : Str)) = false := by
  unfold chkB at h
  simp only [Bool.and_eq_true, Bool.not_eq_true'] at h
  obtain ⟨⟨h1, h2⟩, h3⟩ := h
  obtain ⟨a, b⟩ := G.glob h1
  exact ⟨a, G.bl x (by simpa using h2), fun e => by subst e; simp at h3, b⟩
theorem pv_of (G : GX T Γ C X) {i : Nat} {x : Str} {pos : Pos} (h : chkV C i x = true) : PE X (.Name x pos) (tVar i) := by
  unfold chkV at h
  simp only [Bool.and_eq_true, decide_eq_true_eq, Bool.not_eq_true'] at h
  obtain ⟨⟨⟨h1, h2⟩, h3⟩, h4⟩ := h
  refine pe_var (by rw [G.ok.N]; exact h1) ?_ h3 h4
  unfold Vis
  rw [G.ok.sc]
  split at h2 <;> first | (rename_i e; rw [e]; simp; done) | cases h2
theorem cst_of {d : D} {c : Const} {k : Nat} {p : Pos} {ev : Sig → IH → R D} (h : cstOk d c = true) : PE X (.Constant c k p) (tE X.K fun _ h => .ok d h) := by
  unfold cstOk at h
  split at h
  · exact s_cst pe_non fun _ _ => .non
  · obtain rfl := eq_of_beq h; exact s_cst pe_bl fun _ _ => .bl _
  · obtain rfl := of_decide_eq_true h; exact s_cst pe_int fun _ _ => .int _
  · obtain rfl := of_decide_eq_true h; exact s_cst pe_str fun _ _ => .str _
  · cases h
theorem plainIx_ok {b : Expr} (h : plainIx b = true) : PlainIx b := by
  intro o i
  cases b <;> first | rfl | exact absurd h Bool.false_ne_true
theorem marks_ok {o : CmpOp} {b : Expr} (h : notSet b = true) : behindInMarks o b = false := by
  cases b <;> first | rfl | exact absurd h Bool.false_ne_true
theorem fold_ok {b : Expr} {env : Env} (h : notSet b = true) : ∀ x, foldedSetIterable b env x = pure x := by
  intro x
  cases b <;> first | rfl | exact absurd h Bool.false_ne_true
theorem plainTest_ok {a : Expr} {env : Env} (h : plainTest a = true) : ∀ whole, isTrue a env whole = (do let v ← whole; standAt a.pos; holding [v] (truthy v)) := by
  intro w
  cases a <;> first | rfl | exact absurd h Bool.false_ne_true
theorem never_e {e : Expr} : PE X e (tE X.K fun _ _ => .bad) := ⟨fun pins s σ H Q I ⟨ρ, h, σI, S, L, p⟩ => p.elim⟩
end
end VI

/-! VIpe: the checker's equations. -/
namespace VI
open PySem PySem.Spec PyProof.Rows L2
theorem chkE_nev {T : Tab} {C e} : chkE T (.nev) C e = (true) := rfl
theorem chkE_cst {T : Tab} {d C e} : chkE T (.cst d) C e = (match vConst e with | some c => cstOk d c | none => false) := rfl
theorem chkE_var {T : Tab} {i C e} : chkE T (.var i) C e = (match vName e with | some (x, _) => chkV C i x | none => false) := rfl
theorem chkE_glb {T : Tab} {g C e} : chkE T (.glb g) C e = (match vName e with | some (x, _) => chkGl C x && (match T.G[g]? with | some y => decide (y.1 = x) | none => false) | none => false) := rfl
theorem chkE_gidx {T : Tab} {g i C e} : chkE T (.gidx g i) C e = (match vSub e with
    | some (l, r) => (match vName l with | some (x, _) => chkGl C x && (match T.GD[g]? with | some y => decide (y.1 = x) | none => false) && chkE T i C r && plainIx r | none => false)
    | none => false) := rfl
theorem chkE_bin {T : Tab} {o a b C e} : chkE T (.bin o a b) C e = (match vBin e with | some (l, p, r) => decide (o = p) && chkE T a C l && chkE T b C r | none => false) := rfl
theorem chkE_neg {T : Tab} {a C e} : chkE T (.neg a) C e = (match vUn e with | some (.USub, l) => chkE T a C l | _ => false) := rfl
theorem chkE_cmp {T : Tab} {o a b C e} : chkE T (.cmp o a b) C e = (match vCmp e with | some (l, [p], [r]) => decide (o = p) && chkE T a C l && chkE T b C r && notSet r | _ => false) := rfl
theorem chkE_chn {T : Tab} {o o' a b c C e} : chkE T (.chn o o' a b c) C e = (match vCmp e with | some (l, [p, p'], [r, r']) => decide (o = p) && decide (o' = p') && chkE T a C l && chkE T b C r && chkE T c C r' && notSet r' | _ => false) := rfl
theorem chkE_andV {T : Tab} {a b C e} : chkE T (.andV a b) C e = (match vBool e with
    | some (.And, [l, r], _) => chkE T a C l && chkE T b C r
    | some (.And, l :: r :: q :: rest, p) => chkE T a C l && chkE T b C (.BoolOp .And (r :: q :: rest) p)
    | _ => false) := rfl
theorem chkE_orV {T : Tab} {a b C e} : chkE T (.orV a b) C e = (match vBool e with
    | some (.Or, [l, r], _) => chkE T a C l && chkE T b C r
    | some (.Or, l :: r :: q :: rest, p) => chkE T a C l && chkE T b C (.BoolOp .Or (r :: q :: rest) p)
    | _ => false) := rfl
theorem chkE_notV {T : Tab} {a C e} : chkE T (.notV a) C e = (match vUn e with | some (.Not, l) => chkE T a C l | _ => false) := rfl
theorem chkE_ifx {T : Tab} {c a b C e} : chkE T (.ifx c a b) C e = (match vIf e with | some (t, l, r) => chkT T c C t && chkE T a C l && chkE T b C r | none => false) := rfl
theorem chkE_tup {T : Tab} {es C e} : chkE T (.tup es) C e = (match vTup e with | some ls => chkEs T es C ls | none => false) := rfl
theorem chkE_lst {T : Tab} {u1 es C e} : chkE T (.lst u1 es) C e = (match vLst e with | some ls => chkEs T es C ls | none => false) := rfl
theorem chkE_idx {T : Tab} {a i C e} : chkE T (.idx a i) C e = (match vSub e with | some (l, r) => chkE T a C l && chkE T i C r && plainIx r | none => false) := rfl
theorem chkE_slc {T : Tab} {a lo hi C e} : chkE T (.slc a lo hi) C e = (match vSub e with
    | some (l, r) => (match vSlc r with | some (x, y, none) => chkE T a C l && chkO T lo C x && chkO T hi C y | _ => false)
    | none => false) := rfl
theorem chkE_rev {T : Tab} {a C e} : chkE T (.rev a) C e = (match vSub e with
    | some (l, r) => (match vSlc r with
      | some (none, none, some m) => (match vUn m with | some (.USub, one) => (match vConst one with | some (.int 1) => chkE T a C l | _ => false) | _ => false)
      | _ => false)
    | none => false) := rfl
theorem chkE_call {T : Tab} {f es C e} : chkE T (.call f es) C e = (match vCall e with
    | some (g, ls, [], _) => (match vName g with
      | some (x, _) => chkGl C x && (match T.F[f]? with | some t => decide (t.x = x) && decide (ls.length = t.ps.length) | none => false) && chkEs T es C ls
      | none => false)
    | _ => false) := rfl
theorem chkE_callk {T : Tab} {f ks pm es kv C e} : chkE T (.callk f ks pm es kv) C e = (match vCall e with
    | some (g, ls, kws, _) => (match vName g with
      | some (x, _) => chkGl C x && (match T.F[f]? with | some t => decide (t.x = x) && decide (pm.length = t.ps.length) | none => false) && decide ((f, ls.length, ks, pm) ∈ T.W) && pm.all (fun k => decide (k < ls.length + ks.length)) &&
          decide (kws.map (·.arg) = ks.map some) && chkEs T es C ls && chkEs T kv C (kws.map (·.value))
      | none => false)
    | none => false) := rfl
theorem chkE_blt {T : Tab} {b es C e} : chkE T (.blt b es) C e = (match vCall e with
    | some (g, ls, [], _) => (match vName g with
      | some (x, _) => kBlt T C b x ls && chkEs T es C (argsOf b ls)
      | none => false)
    | _ => false) := rfl
theorem chkE_mth {T : Tab} {m o es C e} : chkE T (.mth m o es) C e = (match vCall e with
    | some (g, ls, [], cp) => (match vAttr g with
      | some (q, n, ap) => plainBase q && (ap.endLine == cp.line) && chkE T o C q && kMth m n ls && chkEs T es C ls
      | none => false)
    | _ => false) := rfl
theorem chkE_lc1 {T : Tab} {u1 own elt s t c C e} : chkE T (.lc1 u1 own elt s t c) C e = (match vLc e with
    | some (x, [⟨tg, it, ifs, 0⟩], scope, _) => blkC C.N C.sc scope own && chkI T s C tg it && notSet it && (slotsT t).all (fun i => (own.map (·.2)).contains i) &&
        chkG (C.blk scope) t tg && (match ifs with | [] => isYes c | [q] => chkT T c (C.blk scope) q | _ => false) && chkE T elt (C.blk scope) x
    | _ => false) := rfl
theorem chkE_lc2 {T : Tab} {u1 own ow1 elt s t c s1 t1 c1 C e} : chkE T (.lc2 u1 own ow1 elt s t c s1 t1 c1) C e = (match vLc e with
    | some (x, [⟨tg, it, ifs, 0⟩, ⟨tg1, it1, ifs1, 0⟩], scope, _) => blkC C.N C.sc scope own && chkI T s C tg it && notSet it && notSet it1 && (slotsT t).all (fun i => (own.map (·.2)).contains i) && (slotsT t1).all (fun i => ow1.contains i) && ow1.all (fun i => (own.map (·.2)).contains i) &&
        chkG (C.blk scope) t tg && chkG (C.blk scope) t1 tg1 && (match ifs with | [] => isYes c | [q] => chkT T c (C.blk scope) q | _ => false) && (match ifs1 with | [] => isYes c1 | [q] => chkT T c1 (C.blk scope) q | _ => false) &&
        chkI T s1 (C.blk scope) tg1 it1 && chkE T elt (C.blk scope) x
    | _ => false) := rfl
theorem chkE_dc1 {T : Tab} {u1 u2 own k v s t c C e} : chkE T (.dc1 u1 u2 own k v s t c) C e = (match vDc e with
    | some (kx, vx, [⟨tg, it, ifs, 0⟩], scope, _) => blkC C.N C.sc scope own && chkI T s C tg it && notSet it && (slotsT t).all (fun i => (own.map (·.2)).contains i) &&
        chkG (C.blk scope) t tg && (match ifs with | [] => isYes c | [q] => chkT T c (C.blk scope) q | _ => false) && chkE T k (C.blk scope) kx && chkE T v (C.blk scope) vx
    | _ => false) := rfl
theorem chkE_dict0 {T : Tab} {u1 C e} : chkE T (.dict0 u1) C e = (match vDict e with | some ([], []) => true | _ => false) := rfl
theorem chkO_none {T : Tab} {C o} : chkO T (.none) C o = (o.isNone) := rfl
theorem chkO_some {T : Tab} {e C o} : chkO T (.some e) C o = (match o with | some l => chkE T e C l | none => false) := rfl
theorem chkT_yes {T : Tab} {C e} : chkT T (.yes) C e = (false) := rfl
theorem chkT_tru {T : Tab} {a C e} : chkT T (.tru a) C e = (plainTest e && chkE T a C e) := rfl
theorem chkT_conj {T : Tab} {a b C e} : chkT T (.conj a b) C e = (match vBool e with
    | some (.And, [l, r], _) => chkT T a C l && chkT T b C r
    | some (.And, l :: r :: q :: rest, p) => chkT T a C l && chkT T b C (.BoolOp .And (r :: q :: rest) p)
    | _ => false) := rfl
theorem chkT_disj {T : Tab} {a b C e} : chkT T (.disj a b) C e = (match vBool e with
    | some (.Or, [l, r], _) => chkT T a C l && chkT T b C r
    | some (.Or, l :: r :: q :: rest, p) => chkT T a C l && chkT T b C (.BoolOp .Or (r :: q :: rest) p)
    | _ => false) := rfl
theorem chkT_neg {T : Tab} {a C e} : chkT T (.neg a) C e = (match vUn e with | some (.Not, l) => chkT T a C l | _ => false) := rfl
theorem chkT_cmp {T : Tab} {o a b C e} : chkT T (.cmp o a b) C e = (match vCmp e with | some (l, [p], [r]) => decide (o = p) && chkE T a C l && chkE T b C r && notSet r | _ => false) := rfl
theorem chkT_chn {T : Tab} {o o' a b c C e} : chkT T (.chn o o' a b c) C e = (match vCmp e with | some (l, [p, p'], [r, r']) => decide (o = p) && decide (o' = p') && chkE T a C l && chkE T b C r && chkE T c C r' && notSet r' | _ => false) := rfl
theorem chkI_val {T : Tab} {a C tg e} : chkI T (.val a) C tg e = (chkE T a C e) := rfl
theorem chkI_rng1 {T : Tab} {a C tg e} : chkI T (.rng1 a) C tg e = (match vCall e with
    | some (g, [l], [], _) => (match vName g with | some (x, _) => decide (x = "range") && chkB T C x && chkE T a C l && noStar l | none => false)
    | _ => false) := rfl
theorem chkI_rng2 {T : Tab} {a b C tg e} : chkI T (.rng2 a b) C tg e = (match vCall e with
    | some (g, [l, r], [], _) => (match vName g with | some (x, _) => decide (x = "range") && chkB T C x && chkE T a C l && noStar l && chkE T b C r && noStar r | none => false)
    | _ => false) := rfl
theorem chkI_enm {T : Tab} {a C tg e} : chkI T (.enm a) C tg e = (match vCall e with
    | some (g, [l], [], _) => (match vName g with | some (x, _) => decide (x = "enumerate") && chkB T C x && chkE T a C l && noStar l && (vTup tg).isSome | none => false)
    | _ => false) := rfl
end VI

set_option maxHeartbeats 1000000
/-! VIq: the checker is sound: expressions, all of them. -/
namespace VI
open PySem PySem.Spec PyProof.Rows L2

section
variable {T : Tab} {Γ : En}
theorem PE.one {X : Cx} {a : Expr} {op : BoolOp} {pos : Pos} {t : TE} (h : PE X a t) : PE X (.BoolOp op [a] pos) t := pe_one h
theorem tys_of {C : Ctx} {X : Cx} (G : GX T Γ C X) : ∀ (us : List String) (es : List Expr), chkTys T C us es = true → (PA X es (tCs (us.map V.ty))) ∧ es.all noStar = true ∧ (∀ u ∈ us, u ∈ isiTs) ∧ ∀ u e, us = [u] → es = [e] → PE X e (tTys [u] true)
  | [], [], _ => ⟨pa_nil, rfl, (fun u (hu : u ∈ ([] : List String)) => by cases hu), fun u e h1 h2 => by cases h1⟩
  | u :: us, e :: es, h => by
    simp only [chkTys, Bool.and_eq_true] at h
    obtain ⟨h1, h2⟩ := h
    obtain ⟨a1, a2, a3, a4⟩ := tys_of G us es h2
    cases hv : vName e with
    | none => rw [hv] at h1; cases h1
    | some y =>
      rw [hv] at h1
      have e1 := vName_ok hv
      subst e1
      simp only [Bool.and_eq_true, decide_eq_true_eq] at h1
      obtain ⟨⟨b1, b2⟩, b3⟩ := h1
      obtain ⟨c1, c2, c3, c4⟩ := G.blt b2
      have b3' : u ∈ isiTs := by simpa using b3
      refine ⟨pa_cons (ty_name b1 c1 c2 c3 c4) a1 (star_cons rfl), by rw [List.all_cons, a2]; rfl, fun v hv => ?_, fun v e2 g1 g2 => ?_⟩
      · rcases List.mem_cons.mp hv with z | z
        · rw [z]; exact b3'
        · exact a3 v z
      · obtain ⟨rfl, rfl⟩ : u = v ∧ us = [] := by simpa using g1
        obtain ⟨rfl, rfl⟩ : Expr.Name y.1 y.2 = e2 ∧ es = [] := by simpa using g2
        exact ty_one b1 c1 c2 c3 c4
  | [], _ :: _, h => by simp [chkTys] at h
  | _ :: _, [], h => by simp [chkTys] at h
theorem ty_of {C : Ctx} {X : Cx} (G : GX T Γ C X) {us : List String} {e : Expr} (h : chkTy T C us e = true) : (∀ u ∈ us, u ∈ isiTs) ∧ ∃ one, PE X e (tTys us one) ∧ (one = true → ∃ u, us = [u]) := by
  unfold chkTy at h
  cases hv : vName e with
  | some y =>
    rw [hv] at h
    simp only [Bool.and_eq_true, beq_iff_eq] at h
    obtain ⟨a1, a2, a3, a4⟩ := tys_of G us [e] h.1
    obtain ⟨u, rfl⟩ : ∃ u, us = [u] := by
      match us, h.2 with
      | [u], _ => exact ⟨u, rfl⟩
    exact ⟨a3, true, a4 u e rfl rfl, fun _ => ⟨u, rfl⟩⟩
  | none =>
    rw [hv] at h
    cases ht : vTup e with
    | none => rw [ht] at h; cases h
    | some es =>
      rw [ht] at h
      obtain ⟨k, p, rfl⟩ := vTup_ok ht
      simp only [Bool.and_eq_true, decide_eq_true_eq] at h
      obtain ⟨a1, a2, a3, a4⟩ := tys_of G us es h.1
      exact ⟨a3, false, ty_tup h.2 a1, fun z => by cases z⟩
theorem bltName_ok {b : Blt} {x : Str} (h : bltName b = some x) : ∃ n f, bltW b = some (n, f) ∧ bootBuiltins x = some f := by
  cases b <;> simp only [bltName, Option.some.injEq, reduceCtorEq] at h <;> subst h
  · exact ⟨_, _, rfl, boot_len⟩
  · exact ⟨_, _, rfl, by decide +kernel⟩
  · exact ⟨_, _, rfl, by decide +kernel⟩
  · exact ⟨_, _, rfl, by decide +kernel⟩
  · exact ⟨_, _, rfl, by decide +kernel⟩
  · exact ⟨_, _, rfl, by decide +kernel⟩
  · exact ⟨_, _, rfl, by decide +kernel⟩
  · exact ⟨_, _, rfl, by decide +kernel⟩
  · exact ⟨_, _, rfl, by decide +kernel⟩
theorem chkEs_star : ∀ {es : IEs} {C : Ctx} {ls : List Expr}, chkEs T es C ls = true → ls.all noStar = true
  | .nil, _, [], _ => rfl
  | .nil, _, _ :: _, h => by simp [chkEs] at h
  | .cons _ _, _, [], h => by simp [chkEs] at h
  | .cons e r, C, l :: ls, h => by
    simp only [chkEs, Bool.and_eq_true] at h
    rw [List.all_cons, h.1.1, chkEs_star h.2]
    rfl
theorem all_in {vs ws : List Nat} (h : vs.all (fun i => ws.contains i) = true) : ∀ i ∈ vs, i ∈ ws := fun i hi => by simpa using List.all_eq_true.mp h i hi
/-- a call of a def of the table -/
theorem s_call0 {C : Ctx} {X : Cx} {f : Nat} {t : FT} {x : Str} {p pos : Pos} (G : GX T Γ C X) (ht : T.F[f]? = some t) (hx : t.x = x) (hl : 0 = t.ps.length) (hg : chkGl C x = true) : PE X (.Call (.Name x p) [] [] pos) (tE X.K fun _ h => Γ.call f [] h) := by
  obtain ⟨k, fa, fd, F, hr, hm, hk, hb, _⟩ := G.fn f t ht
  obtain ⟨g1, g2⟩ := G.glob hg
  subst hx
  exact PE.imp (g_call0 F hr G.gu g1 hm hk hb (pass0 (X := X)) g2) fun σ H Q ⟨ρ, h, σI, S, L, p⟩ => ⟨hl, ρ, h, [], S, .nil, p⟩
theorem s_call {C : Ctx} {X : Cx} {eas : Sig → IH → R (List D)} {f : Nat} {t : FT} {x : Str} {e : Expr} {es : List Expr} {p pos : Pos} (G : GX T Γ C X) (ht : T.F[f]? = some t) (hx : t.x = x) (hl : (e :: es).length = t.ps.length) (hg : chkGl C x = true) (ha : PA X (e :: es) (tA X.K eas)) (hs : (e :: es).all noStar = true)
    (len : ∀ σ h ds h', eas σ h = .ok ds h' → ds.length = (e :: es).length) : PE X (.Call (.Name x p) (e :: es) [] pos) (tE X.K fun σ h => (eas σ h).bd fun xs h => Γ.call f xs h) := by
  obtain ⟨k, fa, fd, F, hr, hm, hk, hb, _⟩ := G.fn f t ht
  obtain ⟨g1, g2⟩ := G.glob hg
  subst hx
  have h1 : noStar e = true ∧ es.all noStar = true := by simpa using hs
  refine PE.imp (g_call F hr G.gu g1 hm hk hb (pass0 (X := X)) ha g2 (star_cons h1.1) (star_any h1.2)) fun σ H Q ⟨ρ, h, σI, S, L, p⟩ => ?_
  cases he : eas σI h with
  | bad => dsimp only at p; rw [he] at p; exact p.elim
  | ok ds0 h0 =>
    refine ⟨ρ, h, σI, S, L, ?_⟩
    rw [he]
    dsimp only at p
    rw [he] at p
    intro ρ1 H1 vs k1 S1 r1
    refine ⟨?_, ρ1, h0, ds0, S1, ?_, Post.shift p k1⟩
    · rw [← hl, ← len σI h ds0 h0 he]
      exact (Rls.length r1).symm
    · exact r1
theorem vals_pick {vs : List V} {us : List Value} (r : Vals vs us) : ∀ pm : List Nat, Vals (pick pm vs) (pick pm us)
  | [] => .nil
  | k :: pm => by
    have ih := vals_pick r pm
    unfold pick at ih ⊢
    rw [List.filterMap_cons, List.filterMap_cons]
    cases hv : vs[k]? with
    | none =>
      have : us[k]? = none := by
        rw [List.getElem?_eq_none_iff] at hv ⊢
        rw [← r.length]
        exact hv
      rw [this]
      exact ih
    | some v =>
      obtain ⟨u, h1, h2⟩ := r.get hv
      rw [h1]
      exact .cons h2 ih
theorem rls_pick {ρ : Ro} {K : Fg} {H : Hp} {ds : List D} {vs : List V} (r : Rls ρ K H ds vs) : ∀ pm : List Nat, Rls ρ K H (pick pm ds) (pick pm vs)
  | [] => .nil
  | k :: pm => by
    have ih := rls_pick r pm
    unfold pick at ih ⊢
    rw [List.filterMap_cons, List.filterMap_cons]
    cases hd : ds[k]? with
    | none =>
      have : vs[k]? = none := by
        rw [List.getElem?_eq_none_iff] at hd ⊢
        rw [← r.length]
        exact hd
      rw [this]
      exact ih
    | some d =>
      obtain ⟨v, h1, h2⟩ := r.get hd
      rw [h1]
      exact .cons h2 ih
theorem pick_len {α : Type} {l : List α} : ∀ {pm : List Nat}, pm.all (fun k => decide (k < l.length)) = true → (pick pm l).length = pm.length
  | [], _ => rfl
  | k :: pm, h => by
    simp only [List.all_cons, Bool.and_eq_true, decide_eq_true_eq] at h
    have ih := pick_len (l := l) (pm := pm) (by simpa using h.2)
    unfold pick at ih ⊢
    rw [List.filterMap_cons, List.getElem?_eq_getElem h.1]
    simp [ih]
theorem PK.imp {X : Cx} {kws : List Keyword} {t t' : TA} (h : PK X kws t) (k : ∀ σ H Q, t' σ H Q → t σ H Q) : PK X kws t' := ⟨fun pos pins s σ H Q I q => h.run pos pins s σ H Q I (k σ H Q q)⟩
theorem kw_some {env : Env} {pos : Pos} : ∀ {kws : List Keyword} {ks : List Str}, kws.map (·.arg) = ks.map some → (backToKw pos (keywordEach kws env)).all (·.1.isSome) = true ∧ (backToKw pos (keywordEach kws env)).any (·.1.isNone) = false ∧ (backToKw pos (keywordEach kws env)).filterMap (·.1) = ks
  | [], [], _ => ⟨rfl, rfl, rfl⟩
  | [], _ :: _, h => by simp at h
  | _ :: _, [], h => by simp at h
  | ⟨a, v, p⟩ :: kws, k :: ks, h => by
    simp only [List.map_cons, List.cons.injEq] at h
    obtain ⟨h1, h2⟩ := h
    obtain ⟨a1, a2, a3⟩ := kw_some (env := env) (pos := pos) h2
    subst h1
    refine ⟨?_, ?_, ?_⟩
    · show (true && (backToKw pos (keywordEach kws env)).all (·.1.isSome)) = true
      rw [a1]; rfl
    · show (false || (backToKw pos (keywordEach kws env)).any (·.1.isNone)) = false
      rw [a2]; rfl
    · show k :: (backToKw pos (keywordEach kws env)).filterMap (·.1) = k :: ks
      rw [a3]
theorem s_callk0 {C : Ctx} {X : Cx} {ebs : Sig → IH → R (List D)} {f : Nat} {t : FT} {x : Str} {kws : List Keyword} {ks : List Str} {pm : List Nat} {p pos : Pos} (G : GX T Γ C X) (ht : T.F[f]? = some t) (hx : t.x = x) (hg : chkGl C x = true)
    (hkw : PK X kws (tA X.K ebs)) (ek : kws.map (·.arg) = ks.map some) (hw : (f, 0, ks, pm) ∈ T.W) (hp : pm.all (fun k => decide (k < ks.length)) = true) (hpl : pm.length = t.ps.length) (len2 : ∀ σ h ds h', ebs σ h = .ok ds h' → ds.length = ks.length) :
    PE X (.Call (.Name x p) [] kws pos) (tE X.K fun σ h => (ebs σ h).bd fun ys h => Γ.call f (pick pm ys) h) := by
  obtain ⟨k, fa, fd, F, hr, hm, hk, hb, kb⟩ := G.fn f t ht
  obtain ⟨g1, g2⟩ := G.glob hg
  subst hx
  obtain ⟨w1, w2, w3⟩ := kw_some (env := X.env) (pos := pos) ek
  have B : KBn X.K fd t.ps 0 ks (fun us ws => pick pm (us ++ ws)) (fun vs zs => pick pm (vs ++ zs)) :=
    ⟨fun s us ws _ l1 l2 => .of_eq (kb _ _ _ hw us ws l1 l2), fun r1 r2 => vals_pick (r1.append r2) pm⟩
  refine ⟨fun pins s σ H Q I ⟨ρ, h, σI, S, L, q⟩ => ?_⟩
  refine wpAny_Call_Name_kw (ld_glob I g1 hm (PySem.W.callWith_KW0 I.ok.mod.kin hk w1 ?_ (by rw [w2]; rfl)) g2)
  cases hf : ebs σI h with
  | bad => dsimp only at q; rw [hf] at q; exact q.elim
  | ok es h2 =>
    dsimp only at q
    rw [hf] at q
    have rd0 : tA X.K ebs σ H (fun zs H2 => zs.length = ks.length ∧ spC X.K Γ f t.ps.length (pick pm ([] ++ zs)) H2 Q E0) := by
      refine ⟨ρ, h, σI, S, L, ?_⟩
      rw [hf]
      intro ρ2 H2 zs k2 S2 r2
      have e2 : zs.length = ks.length := by rw [← Rls.length r2]; exact len2 _ _ _ _ hf
      refine ⟨e2, ?_, ρ2, h2, pick pm es, S2, rls_pick r2 pm, Post.shift q k2⟩
      rw [List.nil_append, pick_len (by rw [e2]; exact hp)]
      exact hpl
    refine thn (hkw.run pos pins s σ H _ I rd0) fun ws s2 ⟨zs, H2, I2, rz, l2, q2⟩ => ⟨I2.kIn, ?_⟩
    rw [w3]
    exact after_call I2 (pass0 (X := X)) (F.run hr G.gu I2.env0 (B.to s2 [] ws I2.kIn rfl (rz.length.symm.trans l2)) (B.rel .nil rz) q2)
theorem s_callk {C : Ctx} {X : Cx} {eas ebs : Sig → IH → R (List D)} {f : Nat} {t : FT} {x : Str} {e : Expr} {es : List Expr} {kws : List Keyword} {ks : List Str} {pm : List Nat} {p pos : Pos} (G : GX T Γ C X) (ht : T.F[f]? = some t) (hx : t.x = x) (hg : chkGl C x = true)
    (ha : PA X (e :: es) (tA X.K eas)) (hs : (e :: es).all noStar = true) (hkw : PK X kws (tA X.K ebs)) (ek : kws.map (·.arg) = ks.map some) (hw : (f, (e :: es).length, ks, pm) ∈ T.W) (hp : pm.all (fun k => decide (k < (e :: es).length + ks.length)) = true) (hpl : pm.length = t.ps.length)
    (len : ∀ σ h ds h', eas σ h = .ok ds h' → ds.length = (e :: es).length) (len2 : ∀ σ h ds h', ebs σ h = .ok ds h' → ds.length = ks.length) :
    PE X (.Call (.Name x p) (e :: es) kws pos) (tE X.K fun σ h => (eas σ h).bd fun xs h => (ebs σ h).bd fun ys h => Γ.call f (pick pm (xs ++ ys)) h) := by
  obtain ⟨k, fa, fd, F, hr, hm, hk, hb, kb⟩ := G.fn f t ht
  obtain ⟨g1, g2⟩ := G.glob hg
  subst hx
  obtain ⟨w1, w2, w3⟩ := kw_some (env := X.env) (pos := pos) ek
  have B : KBn X.K fd t.ps (e :: es).length ks (fun us ws => pick pm (us ++ ws)) (fun vs zs => pick pm (vs ++ zs)) :=
    ⟨fun s us ws _ l1 l2 => .of_eq (kb _ _ _ hw us ws l1 l2), fun r1 r2 => vals_pick (r1.append r2) pm⟩
  have h1 : noStar e = true ∧ es.all noStar = true := by simpa using hs
  refine PE.imp (g_callN F hr G.gu g1 hm hk B (pass0 (X := X)) ha hkw w1 w3 g2 (star_cons h1.1) (by rw [w2, Bool.or_false]; exact star_any hs)) fun σ H Q ⟨ρ, h, σI, S, L, q⟩ => ?_
  cases he : eas σI h with
  | bad => dsimp only at q; rw [he] at q; exact q.elim
  | ok ds h1 =>
    dsimp only at q
    rw [he] at q
    refine ⟨ρ, h, σI, S, L, ?_⟩
    rw [he]
    intro ρ1 H1 vs k1 S1 r1
    have q1 := Post.shift q k1
    have L1 := L.mono k1
    simp only [R.bd] at q1
    cases hf : ebs σI h1 with
    | bad => rw [hf] at q1; exact q1.elim
    | ok es2 h2 =>
      rw [hf] at q1
      refine ⟨ρ1, h1, σI, S1, L1, ?_⟩
      rw [hf]
      intro ρ2 H2 zs k2 S2 r2
      have e1 : vs.length = (e :: es).length := by rw [← Rls.length r1]; exact len _ _ _ _ he
      have e2 : zs.length = ks.length := by rw [← Rls.length r2]; exact len2 _ _ _ _ hf
      refine ⟨e1, e2, ?_, ρ2, h2, pick pm (ds ++ es2), S2, rls_pick (Rls.append (Rls.mono k2 r1) r2) pm, Post.shift q1 k2⟩
      rw [pick_len (by rw [List.length_append, e1, e2]; exact hp)]
      exact hpl
theorem s_gidx {X : Cx} {a b : Expr} {eb : Sig → IH → R D} {p : Pos} {q : Addr} {l m : List (Str × D)} (ha : PE X a (tC (.ref q))) (hb : PE X b (tE X.K eb)) (hs : PlainIx b) (e1 : l = m) (kd : ∀ z d, m.lookup z = some d → ∃ v, KDct X.K X.w q z v ∧ ∀ ρ H, Rl ρ X.K H d v) :
    PE X (.Subscript a b p) (tE X.K fun σ h => (eb σ h).bd fun y h => match y with | .str z => ansD (l.lookup z) h | _ => .bad) := by
  subst e1
  refine PE.imp (pe_ix ix_kdict ha hb hs) fun σ H Q ⟨ρ, h, σI, S, L, p⟩ => ?_
  refine rd_mono (stp (Rv := RvE X.K) S L p) fun v1 H1 ⟨ρ1, x, h1, k1, S1, L1, r1, p1⟩ => ?_
  cases r1 with
  | str z =>
    dsimp only at p1
    cases hl : l.lookup z with
    | none => rw [hl] at p1; exact p1.elim
    | some d =>
      rw [hl] at p1
      obtain ⟨v, k, r⟩ := kd z d hl
      exact ⟨q, z, v, rfl, rfl, k, post_same p1 S1 (r ρ1 H1)⟩
  | _ => exact p1.elim
theorem evEs_len : ∀ {es : IEs} {σ : Sig} {h : IH} {ds : List D} {h' : IH} {C : Ctx} {ls : List Expr}, chkEs T es C ls = true → evEs Γ es σ h = .ok ds h' → ds.length = ls.length
  | .nil, _, _, _, _, _, [], _, e => by simp only [evEs] at e; cases e; rfl
  | .nil, _, _, _, _, _, _ :: _, h, _ => by simp [chkEs] at h
  | .cons _ _, _, _, _, _, _, [], h, _ => by simp [chkEs] at h
  | .cons a r, σ, h, ds, h', C, l :: ls, c, e => by
    simp only [chkEs, Bool.and_eq_true] at c
    simp only [evEs] at e
    cases e1 : evE Γ a σ h with
    | bad => rw [e1] at e; cases e
    | ok d h1 =>
      rw [e1] at e
      simp only [R.bd] at e
      cases e2 : evEs Γ r σ h1 with
      | bad => rw [e2] at e; cases e
      | ok ds2 h2 =>
        rw [e2] at e
        cases e
        simp [evEs_len c.2 e2]
def OkE (T : Tab) (Γ : En) (i : IE) : Prop := ∀ (C : Ctx) (X : Cx) (e : Expr), GX T Γ C X → chkE T i C e = true → PE X e (tE X.K (evE Γ i))
def OkEs (T : Tab) (Γ : En) (i : IEs) : Prop := ∀ (C : Ctx) (X : Cx) (e : List Expr), GX T Γ C X → chkEs T i C e = true → PA X e (tA X.K (evEs Γ i))
def OkAll (T : Tab) (Γ : En) : IEs → Prop
  | .nil => True
  | .cons a r => OkE T Γ a ∧ OkAll T Γ r
theorem okEs : ∀ {i : IEs}, OkAll T Γ i → OkEs T Γ i
  | .nil, _ => fun C X e G h => by
    cases e with
    | nil => exact s_nil
    | cons _ _ => simp [chkEs] at h
  | .cons a r, ok => fun C X e G h => by
    cases e with
    | nil => simp [chkEs] at h
    | cons l ls =>
      simp only [chkEs, Bool.and_eq_true] at h
      exact s_cons (ok.1 C X l G h.1.2) (okEs ok.2 C X ls G h.2) (star_cons h.1.1)
theorem pk_of : ∀ {i : IEs}, OkAll T Γ i → ∀ (C : Ctx) (X : Cx) (kws : List Keyword), GX T Γ C X → chkEs T i C (kws.map (·.value)) = true → PK X kws (tA X.K (evEs Γ i))
  | .nil, _, C, X, kws, G, h => by
    cases kws with
    | nil => exact PK.imp pk_nil fun σ H Q ⟨ρ, h, σI, S, L, p⟩ => p ρ H [] (.refl ρ H) S .nil
    | cons _ _ => simp [chkEs] at h
  | .cons a r, ok, C, X, kws, G, h => by
    cases kws with
    | nil => simp [chkEs] at h
    | cons l ls =>
      obtain ⟨nm, v, kp⟩ := l
      simp only [List.map_cons, chkEs, Bool.and_eq_true] at h
      exact PK.imp (pk_cons (ok.1 C X v G h.1.2) (pk_of ok.2 C X ls G h.2)) fun σ H Q z => cons_rd z
theorem isYes_ok {c : IT} (h : isYes c = true) : c = .yes := by
  cases c <;> first | rfl | cases h
theorem pts_yes {X : Cx} : PTs X [] (tT X.K (evT Γ .yes)) := ⟨fun pins s σ H Q I ⟨ρ, h, σI, S, L, p⟩ => pts_nil.run pins s σ H Q I (post_T p S)⟩
def OkO (T : Tab) (Γ : En) (i : IO) : Prop := ∀ (C : Ctx) (X : Cx) (e : Option Expr), GX T Γ C X → chkO T i C e = true → PO X e (rd RvO X.K (evO Γ i))
def OkT (T : Tab) (Γ : En) (i : IT) : Prop := ∀ (C : Ctx) (X : Cx) (e : Expr), GX T Γ C X → chkT T i C e = true → PT X e (tT X.K (evT Γ i))
def OkI (T : Tab) (Γ : En) (i : Src) : Prop := ∀ (C : Ctx) (X : Cx) (tg e : Expr), GX T Γ C X → chkI T i C tg e = true → PI X tg e (iI X.K (evI Γ i))
theorem nE_nev   : OkE T Γ (.nev ) := fun C X e G h => never_e
theorem nE_cst {d : D}  : OkE T Γ (.cst d) := by
  intro C X e G h
  rw [chkE_cst] at h
  cases hv : vConst e with
  | none => rw [hv] at h; cases h
  | some c =>
    rw [hv] at h
    obtain ⟨k, p, rfl⟩ := vConst_ok hv
    exact cst_of (ev := evE Γ (.cst d)) h
theorem nE_var {i : Nat}  : OkE T Γ (.var i) := by
  intro C X e G h
  rw [chkE_var] at h
  cases hv : vName e with
  | none => rw [hv] at h; cases h
  | some y =>
    rw [hv] at h
    obtain rfl := vName_ok hv
    exact s_var (pv_of G h)
theorem nE_glb {g : Nat}  : OkE T Γ (.glb g) := by
  intro C X e G h
  rw [chkE_glb] at h
  cases hv : vName e with
  | none => rw [hv] at h; cases h
  | some y =>
    rw [hv] at h
    obtain rfl := vName_ok hv
    simp only [Bool.and_eq_true] at h
    obtain ⟨h1, h2⟩ := h
    cases hg : T.G[g]? with
    | none => rw [hg] at h2; cases h2
    | some z =>
      rw [hg] at h2
      obtain ⟨g1, g2⟩ := G.glob h1
      obtain ⟨e1, u, v, m, r, k⟩ := G.gl g z hg
      have h3 : z.1 = y.1 := of_decide_eq_true h2
      rw [h3] at m
      have q : PE X (.Name y.1 y.2) (tE X.K fun _ h => .ok z.2 h) := s_cst (pe_glob g1 m r g2) k
      rw [← e1] at q
      exact q
theorem nE_gidx {g : Nat} {i : IE} (ii : OkE T Γ i) : OkE T Γ (.gidx g i) := by
  intro C X e G h
  rw [chkE_gidx] at h
  cases hv : vSub e with
  | none => rw [hv] at h; cases h
  | some y =>
    obtain ⟨l, r⟩ := y
    rw [hv] at h
    obtain ⟨p, rfl⟩ := vSub_ok hv
    dsimp only at h
    cases hn : vName l with
    | none => rw [hn] at h; cases h
    | some z =>
      rw [hn] at h
      obtain rfl := vName_ok hn
      simp only [Bool.and_eq_true] at h
      obtain ⟨⟨⟨h1, h2⟩, h3⟩, h4⟩ := h
      cases hg : T.GD[g]? with
      | none => rw [hg] at h2; cases h2
      | some y =>
        rw [hg] at h2
        have h2' : y.1 = z.1 := of_decide_eq_true h2
        obtain ⟨g1, g2⟩ := G.glob h1
        obtain ⟨e1, a, m, kd⟩ := G.gd g y hg
        rw [h2'] at m
        exact s_gidx (pe_glob (v := .ref a) g1 m rfl g2) (ii C X r G h3) (plainIx_ok h4) e1 kd
theorem nE_bin {o : Operator} {a : IE} {b : IE} (ia : OkE T Γ a) (ib : OkE T Γ b) : OkE T Γ (.bin o a b) := by
  intro C X e G h
  rw [chkE_bin] at h
  cases hv : vBin e with
  | none => rw [hv] at h; cases h
  | some y =>
    obtain ⟨l, p, r⟩ := y
    rw [hv] at h
    obtain ⟨q, rfl⟩ := vBin_ok hv
    simp only [Bool.and_eq_true, decide_eq_true_eq] at h
    obtain ⟨⟨rfl, h1⟩, h2⟩ := h
    exact s_bin (ia C X l G h1) (ib C X r G h2)
theorem nE_neg {a : IE} (ia : OkE T Γ a) : OkE T Γ (.neg a) := by
  intro C X e G h
  rw [chkE_neg] at h
  cases hv : vUn e with
  | none => rw [hv] at h; cases h
  | some y =>
    obtain ⟨o, l⟩ := y
    rw [hv] at h
    obtain ⟨q, rfl⟩ := vUn_ok hv
    cases o with
    | USub => exact s_neg (ia C X l G h)
    | _ => cases h
theorem nE_cmp {o : CmpOp} {a : IE} {b : IE} (ia : OkE T Γ a) (ib : OkE T Γ b) : OkE T Γ (.cmp o a b) := by
  intro C X e G h
  rw [chkE_cmp] at h
  cases hv : vCmp e with
  | none => rw [hv] at h; cases h
  | some y =>
    obtain ⟨l, ps, rs⟩ := y
    rw [hv] at h
    obtain ⟨q, rfl⟩ := vCmp_ok hv
    match ps, rs, h with
    | [p], [r], h =>
      simp only [Bool.and_eq_true, decide_eq_true_eq] at h
      obtain ⟨⟨⟨rfl, h1⟩, h2⟩, h3⟩ := h
      exact s_cmp G.hu (ia C X l G h1) (ib C X r G h2) (marks_ok h3)
theorem nE_chn {o : CmpOp} {o' : CmpOp} {a : IE} {b : IE} {c : IE} (ia : OkE T Γ a) (ib : OkE T Γ b) (ic : OkE T Γ c) : OkE T Γ (.chn o o' a b c) := by
  intro C X e G h
  rw [chkE_chn] at h
  cases hv : vCmp e with
  | none => rw [hv] at h; cases h
  | some y =>
    obtain ⟨l, ps, rs⟩ := y
    rw [hv] at h
    obtain ⟨q, rfl⟩ := vCmp_ok hv
    match ps, rs, h with
    | [p, p'], [r, r'], h =>
      simp only [Bool.and_eq_true, decide_eq_true_eq] at h
      obtain ⟨⟨⟨⟨⟨rfl, rfl⟩, h1⟩, h2⟩, h3⟩, h4⟩ := h
      exact s_chn G.hu (ia C X l G h1) (ib C X r G h2) (ic C X r' G h3) (marks_ok h4)
theorem nE_andV {a : IE} {b : IE} (ia : OkE T Γ a) (ib : OkE T Γ b) : OkE T Γ (.andV a b) := by
  intro C X e G h
  rw [chkE_andV] at h
  cases hv : vBool e with
  | none => rw [hv] at h; cases h
  | some y =>
    obtain ⟨o, es, p⟩ := y
    rw [hv] at h
    obtain rfl := vBool_ok hv
    match o, es, h with
    | .And, [l, r], h =>
      simp only [Bool.and_eq_true] at h
      exact s_and (ia C X l G h.1) (PE.one (ib C X r G h.2))
    | .And, l :: r :: q :: rest, h =>
      simp only [Bool.and_eq_true] at h
      exact s_and (ia C X l G h.1) (ib C X _ G h.2)
theorem nE_orV {a : IE} {b : IE} (ia : OkE T Γ a) (ib : OkE T Γ b) : OkE T Γ (.orV a b) := by
  intro C X e G h
  rw [chkE_orV] at h
  cases hv : vBool e with
  | none => rw [hv] at h; cases h
  | some y =>
    obtain ⟨o, es, p⟩ := y
    rw [hv] at h
    obtain rfl := vBool_ok hv
    match o, es, h with
    | .Or, [l, r], h =>
      simp only [Bool.and_eq_true] at h
      exact s_or (ia C X l G h.1) (PE.one (ib C X r G h.2))
    | .Or, l :: r :: q :: rest, h =>
      simp only [Bool.and_eq_true] at h
      exact s_or (ia C X l G h.1) (ib C X _ G h.2)
theorem nE_notV {a : IE} (ia : OkE T Γ a) : OkE T Γ (.notV a) := by
  intro C X e G h
  rw [chkE_notV] at h
  cases hv : vUn e with
  | none => rw [hv] at h; cases h
  | some y =>
    obtain ⟨o, l⟩ := y
    rw [hv] at h
    obtain ⟨q, rfl⟩ := vUn_ok hv
    cases o with
    | Not => exact s_not (ia C X l G h)
    | _ => cases h
theorem nE_ifx {c : IT} {a : IE} {b : IE} (ic : OkT T Γ c) (ia : OkE T Γ a) (ib : OkE T Γ b) : OkE T Γ (.ifx c a b) := by
  intro C X e G h
  rw [chkE_ifx] at h
  cases hv : vIf e with
  | none => rw [hv] at h; cases h
  | some y =>
    obtain ⟨t, l, r⟩ := y
    rw [hv] at h
    obtain ⟨q, rfl⟩ := vIf_ok hv
    simp only [Bool.and_eq_true] at h
    exact s_ifx (ic C X t G h.1.1) (ia C X l G h.1.2) (ib C X r G h.2)
theorem nE_tup {es : IEs} (ies : OkAll T Γ es) : OkE T Γ (.tup es) := by
  intro C X e G h
  rw [chkE_tup] at h
  cases hv : vTup e with
  | none => rw [hv] at h; cases h
  | some ls =>
    rw [hv] at h
    obtain ⟨k, p, rfl⟩ := vTup_ok hv
    exact s_tup (okEs ies C X ls G h)
theorem nE_lst {m : Bool} {es : IEs} (ies : OkAll T Γ es) : OkE T Γ (.lst m es) := by
  intro C X e G h
  rw [chkE_lst] at h
  cases hv : vLst e with
  | none => rw [hv] at h; cases h
  | some ls =>
    rw [hv] at h
    obtain ⟨p, rfl⟩ := vLst_ok hv
    cases m with
    | true => exact s_lstM (okEs ies C X ls G h)
    | false => exact s_lstF (okEs ies C X ls G h)
theorem nE_idx {a : IE} {i : IE} (ia : OkE T Γ a) (ii : OkE T Γ i) : OkE T Γ (.idx a i) := by
  intro C X e G h
  rw [chkE_idx] at h
  cases hv : vSub e with
  | none => rw [hv] at h; cases h
  | some y =>
    obtain ⟨l, r⟩ := y
    rw [hv] at h
    obtain ⟨p, rfl⟩ := vSub_ok hv
    simp only [Bool.and_eq_true] at h
    have hu := G.hu
    exact s_idx (by omega) (ia C X l G h.1.1) (ii C X r G h.1.2) (plainIx_ok h.2)
theorem nE_slc {a : IE} {lo : IO} {hi : IO} (ia : OkE T Γ a) (ilo : OkO T Γ lo) (ihi : OkO T Γ hi) : OkE T Γ (.slc a lo hi) := by
  intro C X e G h
  rw [chkE_slc] at h
  cases hv : vSub e with
  | none => rw [hv] at h; cases h
  | some y =>
    obtain ⟨l, r⟩ := y
    rw [hv] at h
    obtain ⟨p, rfl⟩ := vSub_ok hv
    try dsimp only at h
    cases hs : vSlc r with
    | none => rw [hs] at h; cases h
    | some z =>
      obtain ⟨x, y, st⟩ := z
      rw [hs] at h
      obtain ⟨p2, rfl⟩ := vSlc_ok hs
      cases st with
      | some _ => cases h
      | none =>
        simp only [Bool.and_eq_true] at h
        exact s_slc (ia C X l G h.1.1) (ilo C X x G h.1.2) (ihi C X y G h.2)
theorem nE_rev {a : IE} (ia : OkE T Γ a) : OkE T Γ (.rev a) := by
  intro C X e G h
  rw [chkE_rev] at h
  cases hv : vSub e with
  | none => rw [hv] at h; cases h
  | some y =>
    obtain ⟨l, r⟩ := y
    rw [hv] at h
    obtain ⟨p, rfl⟩ := vSub_ok hv
    try dsimp only at h
    cases hs : vSlc r with
    | none => rw [hs] at h; cases h
    | some z =>
      obtain ⟨x, y, st⟩ := z
      rw [hs] at h
      obtain ⟨p2, rfl⟩ := vSlc_ok hs
      match x, y, st, h with
      | none, none, some m, h =>
        try dsimp only at h
        cases hm : vUn m with
        | none => rw [hm] at h; cases h
        | some z =>
          obtain ⟨o, one⟩ := z
          rw [hm] at h
          obtain ⟨q, rfl⟩ := vUn_ok hm
          cases o with
          | USub =>
            try dsimp only at h
            cases hc : vConst one with
            | none => rw [hc] at h; cases h
            | some c =>
              rw [hc] at h
              obtain ⟨k, p3, rfl⟩ := vConst_ok hc
              match c, h with
              | .int 1, h => exact s_rev (ia C X l G h)
          | _ => cases h
theorem nE_call {f : Nat} {es : IEs} (ies : OkAll T Γ es) : OkE T Γ (.call f es) := by
  intro C X e G h
  rw [chkE_call] at h
  cases hv : vCall e with
  | none => rw [hv] at h; cases h
  | some y =>
    obtain ⟨g, ls, ks, p⟩ := y
    rw [hv] at h
    obtain rfl := vCall_ok hv
    cases ks with
    | cons _ _ => cases h
    | nil =>
      try dsimp only at h
      cases hn : vName g with
      | none => rw [hn] at h; cases h
      | some z =>
        rw [hn] at h
        obtain rfl := vName_ok hn
        simp only [Bool.and_eq_true] at h
        obtain ⟨⟨h1, h2⟩, h3⟩ := h
        cases ht : T.F[f]? with
        | none => rw [ht] at h2; cases h2
        | some t =>
          rw [ht] at h2
          simp only [Bool.and_eq_true, decide_eq_true_eq] at h2
          cases ls with
          | nil =>
            cases es with
            | nil => exact s_call0 G ht h2.1 h2.2 h1
            | cons _ _ => simp [chkEs] at h3
          | cons l ls => exact s_call G ht h2.1 h2.2 h1 (okEs ies C X (l :: ls) G h3) (chkEs_star h3) fun σ h ds h' z => evEs_len h3 z
theorem nE_callk {f : Nat} {ks : (List Str)} {pm : (List Nat)} {es : IEs} {kv : IEs} (ies : OkAll T Γ es) (ikv : OkAll T Γ kv) : OkE T Γ (.callk f ks pm es kv) := by
  intro C X e G h
  rw [chkE_callk] at h
  cases hv : vCall e with
  | none => rw [hv] at h; cases h
  | some y =>
    obtain ⟨g, ls, kws, p⟩ := y
    rw [hv] at h
    obtain rfl := vCall_ok hv
    dsimp only at h
    cases hn : vName g with
    | none => rw [hn] at h; cases h
    | some z =>
      rw [hn] at h
      obtain rfl := vName_ok hn
      simp only [Bool.and_eq_true] at h
      obtain ⟨⟨⟨⟨⟨⟨h1, h2⟩, h3⟩, h4⟩, h5⟩, h6⟩, h7⟩ := h
      cases ht : T.F[f]? with
      | none => rw [ht] at h2; cases h2
      | some t =>
        rw [ht] at h2
        simp only [Bool.and_eq_true, decide_eq_true_eq] at h2
        have h3' := of_decide_eq_true h3
        have h5' := of_decide_eq_true h5
        have lk : kws.length = ks.length := by simpa using congrArg List.length h5'
        have l2 : ∀ σ h ds h', evEs Γ kv σ h = .ok ds h' → ds.length = ks.length := fun σ h ds h' z => by rw [evEs_len h7 z, List.length_map, lk]
        have pk := pk_of ikv C X kws G h7
        cases ls with
        | nil =>
          cases es with
          | nil => exact s_callk0 G ht h2.1 h1 pk h5' h3' (by simpa using h4) h2.2 l2
          | cons _ _ => simp [chkEs] at h6
        | cons l ls => exact s_callk G ht h2.1 h1 (okEs ies C X (l :: ls) G h6) (chkEs_star h6) pk h5' h3' h4 h2.2 (fun σ h ds h' z => evEs_len h6 z) l2
theorem nE_blt {b : Blt} {es : IEs} (ies : OkAll T Γ es) : OkE T Γ (.blt b es) := by
  intro C X e G h
  rw [chkE_blt] at h
  cases hv : vCall e with
  | none => rw [hv] at h; cases h
  | some y =>
    obtain ⟨g, ls, ks, p⟩ := y
    rw [hv] at h
    obtain rfl := vCall_ok hv
    cases ks with
    | cons _ _ => cases h
    | nil =>
      try dsimp only at h
      cases hn : vName g with
      | none => rw [hn] at h; cases h
      | some z =>
        rw [hn] at h
        obtain rfl := vName_ok hn
        obtain ⟨x, px⟩ := z
        simp only [Bool.and_eq_true] at h
        obtain ⟨h1, h2⟩ := h
        by_cases hb : ∃ us, b = .isi us
        · obtain ⟨us, rfl⟩ := hb
          simp only [kBlt] at h1
          match ls, h1, h2 with
          | [l, r], h1, h2 =>
            simp only [Bool.and_eq_true, decide_eq_true_eq] at h1
            obtain ⟨⟨⟨rfl, k1⟩, k2⟩, k3⟩ := h1
            match es, h2 with
            | .cons a .nil, h2 =>
              simp only [argsOf, List.take, chkEs, Bool.and_eq_true, Bool.and_true] at h2
              obtain ⟨c1, c2, c3, c4⟩ := G.blt k1
              obtain ⟨m1, one, m2, m3⟩ := ty_of G k3
              have q := s_isi (p := px) (pos := p) (p2 := p) m1 c1 c2 (ies.1 C X l G h2.2) m2 h2.1 k2 m3
              have ee : (fun σ h => ((evE Γ a σ h).bd fun x h => R.ok [x] h).bd fun xs h => bltD (.isi us) xs h) = evE Γ (.blt (.isi us) (.cons a .nil)) := by
                funext σ h
                show _ = ((evE Γ a σ h).bd fun x h => (R.ok [] h).bd fun xs h => .ok (x :: xs) h).bd fun xs h => bltD (.isi us) xs h
                cases evE Γ a σ h <;> rfl
              rw [← ee]
              exact q
            | .nil, h2 => simp [argsOf, chkEs] at h2
            | .cons _ (.cons _ _), h2 => simp [argsOf, chkEs] at h2
        · by_cases hb2 : b = .lenset
          · subst hb2
            simp only [kBlt] at h1
            split at h1
            · rename_i y py l pc
              simp only [Bool.and_eq_true, decide_eq_true_eq] at h1
              obtain ⟨⟨⟨rfl, k1⟩, rfl⟩, k2⟩ := h1
              match es, h2 with
              | .cons a .nil, h2 =>
                simp only [argsOf, argsIn, chkEs, Bool.and_eq_true, Bool.and_true] at h2
                obtain ⟨c1, c2, c3, c4⟩ := G.blt k1
                obtain ⟨d1, d2, d3, d4⟩ := G.blt k2
                have q := s_lenset (p := px) (pos := p) (p2 := py) (q := pc) G.ok.calm G.hu c1 c2 d1 d2 (ies.1 C X l G h2.2) (star_cons h2.1)
                have ee : (fun σ h => ((evE Γ a σ h).bd fun x h => R.ok [x] h).bd fun xs h => bltD .lenset xs h) = evE Γ (.blt .lenset (.cons a .nil)) := by
                  funext σ h
                  show _ = ((evE Γ a σ h).bd fun x h => (R.ok [] h).bd fun xs h => .ok (x :: xs) h).bd fun xs h => bltD .lenset xs h
                  cases evE Γ a σ h <;> rfl
                rw [← ee]
                exact q
              | .nil, h2 => simp [argsOf, argsIn, chkEs] at h2
              | .cons _ (.cons _ _), h2 => simp [argsOf, argsIn, chkEs] at h2
            · cases h1
          have hk : kBlt T C b x ls = (decide (bltName b = some x) && chkB T C x && !ls.isEmpty) := by
            cases b <;> first | rfl | exact absurd ⟨_, rfl⟩ hb | exact absurd rfl hb2
          have ha : argsOf b ls = ls := by
            cases b <;> first | rfl | exact absurd ⟨_, rfl⟩ hb | exact absurd rfl hb2
          rw [hk] at h1
          rw [ha] at h2
          simp only [Bool.and_eq_true, decide_eq_true_eq] at h1
          obtain ⟨⟨k1, k2⟩, k3⟩ := h1
          obtain ⟨n, f, b1, b2⟩ := bltName_ok k1
          obtain ⟨c1, c2, c3, c4⟩ := G.blt k2
          cases ls with
          | nil => cases k3
          | cons l ls =>
            exact s_blt b1 b2 G.ok.calm G.gu G.hu c1 c2 c3 c4 (okEs ies C X (l :: ls) G h2) (chkEs_star h2)
theorem nE_mth {m : Mth} {o : IE} {es : IEs} (io : OkE T Γ o) (ies : OkAll T Γ es) : OkE T Γ (.mth m o es) := by
  intro C X e G h
  rw [chkE_mth] at h
  cases hv : vCall e with
  | none => rw [hv] at h; cases h
  | some y =>
    obtain ⟨g, ls, ks, cp⟩ := y
    rw [hv] at h
    obtain rfl := vCall_ok hv
    cases ks with
    | cons _ _ => cases h
    | nil =>
      try dsimp only at h
      cases hn : vAttr g with
      | none => rw [hn] at h; cases h
      | some z =>
        obtain ⟨q, n, ap⟩ := z
        rw [hn] at h
        obtain rfl := vAttr_ok hn
        simp only [Bool.and_eq_true] at h
        obtain ⟨⟨⟨⟨h1, h2⟩, h3⟩, h4⟩, h5⟩ := h
        have hu := G.hu
        have ok := ies
        match m, h4 with
        | .append, h4 =>
          simp only [kMth, Bool.and_eq_true, decide_eq_true_eq, beq_iff_eq] at h4
          obtain ⟨rfl, h4⟩ := h4
          match es, ls, h4, h5, ok with
          | .cons a .nil, [l], _, h5, ok =>
            simp only [chkEs, Bool.and_eq_true, Bool.and_true] at h5
            exact s_append (io C X q G h3) (ok.1 C X l G h5.2) h1 h2 h5.1
          | .nil, [l], _, h5, _ => simp [chkEs] at h5
          | .cons _ (.cons _ _), [l], _, h5, _ => simp [chkEs] at h5
        | .get1, h4 =>
          simp only [kMth, Bool.and_eq_true, decide_eq_true_eq, beq_iff_eq] at h4
          obtain ⟨rfl, h4⟩ := h4
          match es, ls, h4, h5, ok with
          | .cons a .nil, [l], _, h5, ok =>
            simp only [chkEs, Bool.and_eq_true, Bool.and_true] at h5
            exact s_get1 (by omega) (io C X q G h3) (ok.1 C X l G h5.2) h1 h2 h5.1
          | .nil, [l], _, h5, _ => simp [chkEs] at h5
          | .cons _ (.cons _ _), [l], _, h5, _ => simp [chkEs] at h5
        | .get2, h4 =>
          simp only [kMth, Bool.and_eq_true, decide_eq_true_eq, beq_iff_eq] at h4
          obtain ⟨rfl, h4⟩ := h4
          match es, ls, h4, h5, ok with
          | .cons a (.cons b .nil), [l, r], _, h5, ok =>
            simp only [chkEs, Bool.and_eq_true, Bool.and_true] at h5
            exact s_get2 (by omega) (io C X q G h3) (ok.1 C X l G h5.1.2) (ok.2.1 C X r G h5.2.2) h1 h2 h5.1.1 h5.2.1
          | .nil, [l, r], _, h5, _ => simp [chkEs] at h5
          | .cons _ .nil, [l, r], _, h5, _ => simp [chkEs] at h5
          | .cons _ (.cons _ (.cons _ _)), [l, r], _, h5, _ => simp [chkEs] at h5
theorem nE_lc1 {m : Bool} {own : (List (Str × Nat))} {elt : IE} {s : Src} {t : Tgt} {c : IT} (ielt : OkE T Γ elt) (is : OkI T Γ s) (ic : OkT T Γ c) : OkE T Γ (.lc1 m own elt s t c) := by
  intro C X e G h
  rw [chkE_lc1] at h
  cases hv : vLc e with
  | none => rw [hv] at h; cases h
  | some y =>
    obtain ⟨x, gs, scope, p⟩ := y
    rw [hv] at h
    obtain rfl := vLc_ok hv
    match gs, h with
    | [⟨tg, it, ifs, 0⟩], h =>
      simp only [Bool.and_eq_true] at h
      obtain ⟨⟨⟨⟨⟨⟨h1, h2⟩, h3⟩, h4⟩, h5⟩, h6⟩, h7⟩ := h
      refine s_lc1 (m := m) G.ok.calm G.nd (is C X tg it G h2) (blkOk_by (by rw [G.ok.N, G.ok.sc]; exact h1)) (all_in h4) (fun s1 H1 a cl fp => g_ok (G.blk scope s1 H1 cl a fp).ok t tg h5) (fun s1 H1 a cl fp => ?_) (fun s1 H1 a cl fp => ielt _ _ x (G.blk scope s1 H1 cl a fp) h7) (fold_ok h3)
      match ifs, h6 with
      | [], h6 =>
        obtain rfl := isYes_ok h6
        exact pts_yes
      | [q], h6 => exact pts_one (ic _ _ q (G.blk scope s1 H1 cl a fp) h6)
theorem nE_lc2 {m : Bool} {own : (List (Str × Nat))} {ow1 : (List Nat)} {elt : IE} {s : Src} {t : Tgt} {c : IT} {s1 : Src} {t1 : Tgt} {c1 : IT} (ielt : OkE T Γ elt) (is : OkI T Γ s) (ic : OkT T Γ c) (is1 : OkI T Γ s1) (ic1 : OkT T Γ c1) : OkE T Γ (.lc2 m own ow1 elt s t c s1 t1 c1) := by
  intro C X e G h
  rw [chkE_lc2] at h
  cases hv : vLc e with
  | none => rw [hv] at h; cases h
  | some y =>
    obtain ⟨x, gs, scope, p⟩ := y
    rw [hv] at h
    obtain rfl := vLc_ok hv
    match gs, h with
    | [⟨tg, it, ifs, 0⟩, ⟨tg1, it1, ifs1, 0⟩], h =>
      simp only [Bool.and_eq_true] at h
      obtain ⟨⟨⟨⟨⟨⟨⟨⟨⟨⟨⟨⟨h1, h2⟩, h3⟩, h4⟩, h5⟩, h6⟩, h7⟩, h8⟩, h9⟩, h10⟩, h11⟩, h12⟩, h13⟩ := h
      refine s_lc2 (m := m) G.ok.calm G.nd (is C X tg it G h2) (blkOk_by (by rw [G.ok.N, G.ok.sc]; exact h1)) (all_in h7) (all_in h5) (all_in h6) (fun s1 H1 a cl fp => g_ok (G.blk scope s1 H1 cl a fp).ok t tg h8) (fun s2 H1 a cl fp => ?_)
        (fun s2 H1 a cl fp => is1 _ _ tg1 it1 (G.blk scope s2 H1 cl a fp) h12) (fun s1 H1 a cl fp => g_ok (G.blk scope s1 H1 cl a fp).ok t1 tg1 h9) (fun s2 H1 a cl fp => ?_) (fun s1 H1 a cl fp => ielt _ _ x (G.blk scope s1 H1 cl a fp) h13) (fold_ok h3) (fun env => fold_ok h4)
      · match ifs, h10 with
        | [], h6 =>
          obtain rfl := isYes_ok h6
          exact pts_yes
        | [q], h6 => exact pts_one (ic _ _ q (G.blk scope s2 H1 cl a fp) h6)
      · match ifs1, h11 with
        | [], h6 =>
          obtain rfl := isYes_ok h6
          exact pts_yes
        | [q], h6 => exact pts_one (ic1 _ _ q (G.blk scope s2 H1 cl a fp) h6)
theorem nE_dc1 {tk : Bool} {m : Bool} {own : (List (Str × Nat))} {k : IE} {v : IE} {s : Src} {t : Tgt} {c : IT} (ik : OkE T Γ k) (iv : OkE T Γ v) (is : OkI T Γ s) (ic : OkT T Γ c) : OkE T Γ (.dc1 tk m own k v s t c) := by
  intro C X e G h
  rw [chkE_dc1] at h
  cases hv : vDc e with
  | none => rw [hv] at h; cases h
  | some y =>
    obtain ⟨kx, vx, gs, scope, p⟩ := y
    rw [hv] at h
    obtain rfl := vDc_ok hv
    match gs, h with
    | [⟨tg, it, ifs, 0⟩], hh =>
      simp only [Bool.and_eq_true] at hh
      obtain ⟨⟨⟨⟨⟨⟨⟨h1, h2⟩, h3⟩, h4⟩, h5⟩, h6⟩, h7⟩, h8⟩ := hh
      have hu := G.hu
      refine s_dc (tk := tk) (by omega) G.ok.calm G.nd (is C X tg it G h2) (blkOk_by (by rw [G.ok.N, G.ok.sc]; exact h1)) (all_in h4) (fold_ok h3) fun s1 H1 a cl fp => ⟨g_ok (G.blk scope s1 H1 cl a fp).ok t tg h5, ?_, ik _ _ kx (G.blk scope s1 H1 cl a fp) h7, iv _ _ vx (G.blk scope s1 H1 cl a fp) h8⟩
      match ifs, h6 with
      | [], h6 =>
        obtain rfl := isYes_ok h6
        exact pts_yes
      | [q], h6 => exact pts_one (ic _ _ q (G.blk scope s1 H1 cl a fp) h6)
theorem nE_dict0 {tk : Bool}  : OkE T Γ (.dict0 tk) := by
  intro C X e G h
  rw [chkE_dict0] at h
  cases hv : vDict e with
  | none => rw [hv] at h; cases h
  | some y =>
    obtain ⟨a, b⟩ := y
    rw [hv] at h
    obtain ⟨p, rfl⟩ := vDict_ok hv
    match a, b, h with
    | [], [], _ => exact s_dict0 tk
theorem nO_none   : OkO T Γ (.none ) := by
  intro C X o G h
  cases o with
  | none => exact o_none
  | some _ => first | (rw [chkO_none] at h; cases h) | cases h
theorem nO_some {a : IE} (ia : OkE T Γ a) : OkO T Γ (.some a) := by
  intro C X o G h
  cases o with
  | none => first | (rw [chkO_some] at h; cases h) | cases h
  | some l =>
    rw [chkO_some] at h
    exact o_some (ia C X l G h)
theorem nT_yes   : OkT T Γ (.yes ) := by
  intro C X e G h
  first | (rw [chkT_yes] at h; cases h) | cases h
theorem nT_tru {a : IE} (ia : OkE T Γ a) : OkT T Γ (.tru a) := by
  intro C X e G h
  rw [chkT_tru] at h
  simp only [Bool.and_eq_true] at h
  exact t_tru (ia C X e G h.2) (plainTest_ok h.1)
theorem nT_conj {a : IT} {b : IT} (ia : OkT T Γ a) (ib : OkT T Γ b) : OkT T Γ (.conj a b) := by
  intro C X e G h
  rw [chkT_conj] at h
  cases hv : vBool e with
  | none => rw [hv] at h; cases h
  | some y =>
    obtain ⟨o, es, p⟩ := y
    rw [hv] at h
    obtain rfl := vBool_ok hv
    match o, es, h with
    | .And, [l, r], h =>
      simp only [Bool.and_eq_true] at h
      exact t_conj (ia C X l G h.1) (t_one_and (ib C X r G h.2))
    | .And, l :: r :: q :: rest, h =>
      simp only [Bool.and_eq_true] at h
      exact t_conj (ia C X l G h.1) (ib C X _ G h.2)
theorem nT_disj {a : IT} {b : IT} (ia : OkT T Γ a) (ib : OkT T Γ b) : OkT T Γ (.disj a b) := by
  intro C X e G h
  rw [chkT_disj] at h
  cases hv : vBool e with
  | none => rw [hv] at h; cases h
  | some y =>
    obtain ⟨o, es, p⟩ := y
    rw [hv] at h
    obtain rfl := vBool_ok hv
    match o, es, h with
    | .Or, [l, r], h =>
      simp only [Bool.and_eq_true] at h
      exact t_disj (ia C X l G h.1) (t_one_or (ib C X r G h.2))
    | .Or, l :: r :: q :: rest, h =>
      simp only [Bool.and_eq_true] at h
      exact t_disj (ia C X l G h.1) (ib C X _ G h.2)
theorem nT_neg {a : IT} (ia : OkT T Γ a) : OkT T Γ (.neg a) := by
  intro C X e G h
  rw [chkT_neg] at h
  cases hv : vUn e with
  | none => rw [hv] at h; cases h
  | some y =>
    obtain ⟨o, l⟩ := y
    rw [hv] at h
    obtain ⟨q, rfl⟩ := vUn_ok hv
    cases o with
    | Not => exact t_neg (ia C X l G h)
    | _ => cases h
theorem nT_cmp {o : CmpOp} {a : IE} {b : IE} (ia : OkE T Γ a) (ib : OkE T Γ b) : OkT T Γ (.cmp o a b) := by
  intro C X e G h
  rw [chkT_cmp] at h
  cases hv : vCmp e with
  | none => rw [hv] at h; cases h
  | some y =>
    obtain ⟨l, ps, rs⟩ := y
    rw [hv] at h
    obtain ⟨q, rfl⟩ := vCmp_ok hv
    match ps, rs, h with
    | [p], [r], h =>
      simp only [Bool.and_eq_true, decide_eq_true_eq] at h
      obtain ⟨⟨⟨rfl, h1⟩, h2⟩, h3⟩ := h
      exact t_cmp G.hu (ia C X l G h1) (ib C X r G h2) (marks_ok h3)
theorem nT_chn {o : CmpOp} {o' : CmpOp} {a : IE} {b : IE} {c : IE} (ia : OkE T Γ a) (ib : OkE T Γ b) (ic : OkE T Γ c) : OkT T Γ (.chn o o' a b c) := by
  intro C X e G h
  rw [chkT_chn] at h
  cases hv : vCmp e with
  | none => rw [hv] at h; cases h
  | some y =>
    obtain ⟨l, ps, rs⟩ := y
    rw [hv] at h
    obtain ⟨q, rfl⟩ := vCmp_ok hv
    match ps, rs, h with
    | [p, p'], [r, r'], h =>
      simp only [Bool.and_eq_true, decide_eq_true_eq] at h
      obtain ⟨⟨⟨⟨⟨rfl, rfl⟩, h1⟩, h2⟩, h3⟩, h4⟩ := h
      exact t_chn G.hu (ia C X l G h1) (ib C X r G h2) (ic C X r' G h3) (marks_ok h4)
theorem nI_val {a : IE} (ia : OkE T Γ a) : OkI T Γ (.val a) := by
  intro C X tg  e G h
  rw [chkI_val] at h
  exact i_val (ia C X e G h)
theorem nI_rng1 {a : IE} (ia : OkE T Γ a) : OkI T Γ (.rng1 a) := by
  intro C X tg  e G h
  rw [chkI_rng1] at h
  cases hv : vCall e with
  | none => rw [hv] at h; cases h
  | some y =>
    obtain ⟨g, ls, ks, p⟩ := y
    rw [hv] at h
    obtain rfl := vCall_ok hv
    match ls, ks, h with
    | [l], [], hh =>
      try dsimp only at hh
      cases hn : vName g with
      | none => rw [hn] at hh; cases hh
      | some z =>
        rw [hn] at hh
        obtain rfl := vName_ok hn
        obtain ⟨x, px⟩ := z
        simp only [Bool.and_eq_true, decide_eq_true_eq] at hh
        obtain ⟨⟨⟨h1, h2⟩, h3⟩, h4⟩ := hh
        obtain ⟨c1, c2, c3, c4⟩ := G.blt h2
        exact i_rng1 h1 c1 c2 (ia C X l G h3) h4
theorem nI_rng2 {a : IE} {b : IE} (ia : OkE T Γ a) (ib : OkE T Γ b) : OkI T Γ (.rng2 a b) := by
  intro C X tg  e G h
  rw [chkI_rng2] at h
  cases hv : vCall e with
  | none => rw [hv] at h; cases h
  | some y =>
    obtain ⟨g, ls, ks, p⟩ := y
    rw [hv] at h
    obtain rfl := vCall_ok hv
    match ls, ks, h with
    | [l, r], [], hh =>
      try dsimp only at hh
      cases hn : vName g with
      | none => rw [hn] at hh; cases hh
      | some z =>
        rw [hn] at hh
        obtain rfl := vName_ok hn
        obtain ⟨x, px⟩ := z
        simp only [Bool.and_eq_true, decide_eq_true_eq] at hh
        obtain ⟨⟨⟨⟨⟨h1, h2⟩, h3⟩, h4⟩, h5⟩, h6⟩ := hh
        obtain ⟨c1, c2, c3, c4⟩ := G.blt h2
        exact i_rng2 h1 c1 c2 (ia C X l G h3) (ib C X r G h5) h4 h6
theorem nI_enm {a : IE} (ia : OkE T Γ a) : OkI T Γ (.enm a) := by
  intro C X tg  e G h
  rw [chkI_enm] at h
  cases hv : vCall e with
  | none => rw [hv] at h; cases h
  | some y =>
    obtain ⟨g, ls, ks, p⟩ := y
    rw [hv] at h
    obtain rfl := vCall_ok hv
    match ls, ks, h with
    | [l], [], hh =>
      try dsimp only at hh
      cases hn : vName g with
      | none => rw [hn] at hh; cases hh
      | some z =>
        rw [hn] at hh
        obtain rfl := vName_ok hn
        obtain ⟨x, px⟩ := z
        simp only [Bool.and_eq_true, decide_eq_true_eq] at hh
        obtain ⟨⟨⟨⟨h1, h2⟩, h3⟩, h4⟩, h5⟩ := hh
        obtain ⟨c1, c2, c3, c4⟩ := G.blt h2
        obtain ⟨es, he⟩ := Option.isSome_iff_exists.mp h5
        obtain ⟨kk, tp, rfl⟩ := vTup_ok he
        exact i_enm h1 c1 c2 (ia C X l G h3) h4
theorem nI_zip {u0 : Bool} {u1 : IE} {u2 : IE}  : OkI T Γ (.zip u0 u1 u2) := by
  intro C X tg  e G h
  first | (rw [chkI_zip] at h; cases h) | cases h
theorem nI_items {u0 : IE}  : OkI T Γ (.items u0) := by
  intro C X tg  e G h
  first | (rw [chkI_items] at h; cases h) | cases h
theorem nI_vals {u0 : IE}  : OkI T Γ (.vals u0) := by
  intro C X tg  e G h
  first | (rw [chkI_vals] at h; cases h) | cases h
mutual
theorem eE : ∀ (i : IE), OkE T Γ i
  | .nev  => nE_nev 
  | .cst d => nE_cst 
  | .var i => nE_var 
  | .glb g => nE_glb 
  | .gidx g i => nE_gidx (eE i)
  | .bin o a b => nE_bin (eE a) (eE b)
  | .neg a => nE_neg (eE a)
  | .cmp o a b => nE_cmp (eE a) (eE b)
  | .chn o o' a b c => nE_chn (eE a) (eE b) (eE c)
  | .andV a b => nE_andV (eE a) (eE b)
  | .orV a b => nE_orV (eE a) (eE b)
  | .notV a => nE_notV (eE a)
  | .ifx c a b => nE_ifx (eT c) (eE a) (eE b)
  | .tup es => nE_tup (eEs es)
  | .lst m es => nE_lst (eEs es)
  | .idx a i => nE_idx (eE a) (eE i)
  | .slc a lo hi => nE_slc (eE a) (eO lo) (eO hi)
  | .rev a => nE_rev (eE a)
  | .call f es => nE_call (eEs es)
  | .callk f ks pm es kv => nE_callk (eEs es) (eEs kv)
  | .blt b es => nE_blt (eEs es)
  | .mth m o es => nE_mth (eE o) (eEs es)
  | .lc1 m own elt s t c => nE_lc1 (eE elt) (eI s) (eT c)
  | .lc2 m own ow1 elt s t c s1 t1 c1 => nE_lc2 (eE elt) (eI s) (eT c) (eI s1) (eT c1)
  | .dc1 tk m own k v s t c => nE_dc1 (eE k) (eE v) (eI s) (eT c)
  | .dict0 tk => nE_dict0 
theorem eEs : ∀ (i : IEs), OkAll T Γ i
  | .nil => trivial
  | .cons a r => ⟨eE a, eEs r⟩
theorem eO : ∀ (i : IO), OkO T Γ i
  | .none  => nO_none 
  | .some a => nO_some (eE a)
theorem eT : ∀ (i : IT), OkT T Γ i
  | .yes  => nT_yes 
  | .tru a => nT_tru (eE a)
  | .conj a b => nT_conj (eT a) (eT b)
  | .disj a b => nT_disj (eT a) (eT b)
  | .neg a => nT_neg (eT a)
  | .cmp o a b => nT_cmp (eE a) (eE b)
  | .chn o o' a b c => nT_chn (eE a) (eE b) (eE c)
theorem eI : ∀ (i : Src), OkI T Γ i
  | .val a => nI_val (eE a)
  | .rng1 a => nI_rng1 (eE a)
  | .rng2 a b => nI_rng2 (eE a) (eE b)
  | .enm a => nI_enm (eE a)
  | .zip u0 u1 u2 => nI_zip 
  | .items u0 => nI_items 
  | .vals u0 => nI_vals 
end
end
end VI

/-! VIr: the checker of statements, sound. -/
namespace VI
open PySem PySem.Spec PyProof.Rows L2

def vAssign : Stmt → Option (List Expr × Expr × Pos) | .Assign ts v p => some (ts, v, p) | _ => none
def vAug : Stmt → Option (Expr × Operator × Expr × Pos) | .AugAssign t o v p => some (t, o, v, p) | _ => none
def vExprS : Stmt → Option (Expr × Pos) | .Expr v p => some (v, p) | _ => none
def vRet : Stmt → Option (Option Expr) | .Return v _ => some v | _ => none
def vIfS : Stmt → Option (Expr × List Stmt × List Stmt) | .If c a b _ => some (c, a, b) | _ => none
def vFor : Stmt → Option (Expr × Expr × List Stmt × List Stmt) | .For t i a b _ => some (t, i, a, b) | _ => none
def vWhile : Stmt → Option (Expr × List Stmt × List Stmt) | .While c a b _ => some (c, a, b) | _ => none
def isPass : Stmt → Bool | .Pass _ => true | _ => false
def isBrk : Stmt → Bool | .Break _ => true | _ => false
def isCont : Stmt → Bool | .Continue _ => true | _ => false
theorem vAssign_ok {s : Stmt} {y} (h : vAssign s = some y) : s = .Assign y.1 y.2.1 y.2.2 := by cases s <;> simp [vAssign] at h; subst h; rfl
theorem vAug_ok {s : Stmt} {y} (h : vAug s = some y) : s = .AugAssign y.1 y.2.1 y.2.2.1 y.2.2.2 := by cases s <;> simp [vAug] at h; subst h; rfl
theorem vExprS_ok {s : Stmt} {y} (h : vExprS s = some y) : s = .Expr y.1 y.2 := by cases s <;> simp [vExprS] at h; subst h; rfl
theorem vRet_ok {s : Stmt} {y} (h : vRet s = some y) : ∃ p, s = .Return y p := by cases s <;> simp [vRet] at h; subst h; exact ⟨_, rfl⟩
theorem vIfS_ok {s : Stmt} {y} (h : vIfS s = some y) : ∃ p, s = .If y.1 y.2.1 y.2.2 p := by cases s <;> simp [vIfS] at h; subst h; exact ⟨_, rfl⟩
theorem vFor_ok {s : Stmt} {y} (h : vFor s = some y) : ∃ p, s = .For y.1 y.2.1 y.2.2.1 y.2.2.2 p := by cases s <;> simp [vFor] at h; subst h; exact ⟨_, rfl⟩
theorem vWhile_ok {s : Stmt} {y} (h : vWhile s = some y) : ∃ p, s = .While y.1 y.2.1 y.2.2 p := by cases s <;> simp [vWhile] at h; subst h; exact ⟨_, rfl⟩
theorem isPass_ok {s : Stmt} (h : isPass s = true) : ∃ p, s = .Pass p := by cases s <;> first | exact ⟨_, rfl⟩ | cases h
theorem isBrk_ok {s : Stmt} (h : isBrk s = true) : ∃ p, s = .Break p := by cases s <;> first | exact ⟨_, rfl⟩ | cases h
theorem isCont_ok {s : Stmt} (h : isCont s = true) : ∃ p, s = .Continue p := by cases s <;> first | exact ⟨_, rfl⟩ | cases h

def notComp : Expr → Bool
  | .ListComp .. => false
  | .SetComp .. => false
  | .DictComp .. => false
  | _ => true
/-- the store is the plain one -/
def swNone (sc : Scope) (tg v : Expr) : Bool := match tg with
  | .Tuple ts _ _ => (match v with
    | .Tuple vs _ _ => !(ts.length == 2 || ts.length == 3) || vs.length != ts.length || vs.all (foldedForSure 8)
    | _ => true)
  | .List _ _ => false
  | _ => true
theorem swNone_ok {env : Env} {tg v : Expr} (h : swNone env.scope tg v = true) : swappedStores [tg] v env = pure none := by
  cases tg with
  | Tuple ts k p =>
    cases v with
    | Tuple vs k2 p2 =>
      simp only [swNone, Bool.or_eq_true] at h
      unfold swappedStores
      dsimp only
      rcases h with (h | h) | h
      · simp [h]
      · simp [h]
      · repeat (first | rfl | (split <;> try rfl))
        all_goals simp_all
    | _ => rfl
  | List _ _ => cases h
  | _ => rfl
/-- a name's store joins the comprehension's end -/
def swB (sc : Scope) (t : Str) (tp : Pos) (scope : Scope) (p : Pos) : Bool :=
  decide (sc.names.lookup t = some .local) && (tp.line == p.line) && !(scope.names.any fun (n, k) => n == t && (k == .local || k == .cell))
theorem sw_lc {env : Env} (hk : env.scope.kind = .function) {e : Expr} {gs : List Comprehension} {scope : Scope} {p tp : Pos} {t : Str} {l : Nat} : swapsWith (.ListComp e gs scope p) (some (.Name t tp)) l env = pure (swB env.scope t tp scope p) := by
  have hb : env.blockKind = .function := by unfold Env.blockKind; rw [hk]; rfl
  unfold swapsWith swB
  simp only [hb, Expr.pos]
  have : (env.kindOf t == some NameKind.local) = decide (env.scope.names.lookup t = some NameKind.local) := by
    show (env.scope.names.lookup t == some NameKind.local) = _
    by_cases hh : env.scope.names.lookup t = some NameKind.local
    · rw [hh]; rfl
    · rw [decide_eq_false hh]; exact beq_eq_false_iff_ne.mpr hh
  rw [this]
  rfl
theorem sw_dc {env : Env} (hk : env.scope.kind = .function) {k v : Expr} {gs : List Comprehension} {scope : Scope} {p tp : Pos} {t : Str} {l : Nat} : swapsWith (.DictComp k v gs scope p) (some (.Name t tp)) l env = pure (swB env.scope t tp scope p) := by
  have hb : env.blockKind = .function := by unfold Env.blockKind; rw [hk]; rfl
  unfold swapsWith swB
  simp only [hb, Expr.pos]
  have : (env.kindOf t == some NameKind.local) = decide (env.scope.names.lookup t = some NameKind.local) := by
    show (env.scope.names.lookup t == some NameKind.local) = _
    by_cases hh : env.scope.names.lookup t = some NameKind.local
    · rw [hh]; rfl
    · rw [decide_eq_false hh]; exact beq_eq_false_iff_ne.mpr hh
  rw [this]
  rfl
def kindFn (sc : Scope) : Bool := match sc.kind with | .function => true | _ => false
theorem kindFn_ok {sc : Scope} (h : kindFn sc = true) : sc.kind = .function := by
  unfold kindFn at h
  split at h
  · assumption
  · cases h
/-- how an assignment of one target is made: plain, or a list comprehension's end -/
def kAsg (C : Ctx) (t : Tgt) (i : IE) (tg v : Expr) : Bool :=
  noStar tg && ((notComp v && swNone C.sc tg v) || (match vLc v with
    | some (_, _, scope, p) => (match vName tg, t with
      | some (x, tp), .nm _ => if swB C.sc x tp scope p then (match i with | .lc1 .. => true | .lc2 .. => true | _ => false) else true
      | _, _ => false)
    | none => false) || (match vDc v with
    | some (_, _, _, scope, p) => (match vName tg, t with
      | some (x, tp), .nm _ => if swB C.sc x tp scope p then (match i with | .dc1 .. => true | _ => false) else true
      | _, _ => false)
    | none => false))
def kPar (C : Ctx) (is : List Nat) (ts vs : List Expr) : Bool :=
  match is, ts with
  | [i, j], [.Name x px, .Name y py] => decide (C.N[i]? = some x) && decide (C.N[j]? = some y) && decide (i ≠ j) && decide (C.sc.names.lookup x = some .local) && decide (C.sc.names.lookup y = some .local) && (py.line == px.line) && !(x == y) && parOk C.sc ts vs && decide (vs.length = 2)
  | [i, j, l], [.Name x px, .Name y py, .Name z pz] => decide (C.N[i]? = some x) && decide (C.N[j]? = some y) && decide (C.N[l]? = some z) && decide (i ≠ j) && decide (i ≠ l) && decide (j ≠ l) && decide (C.sc.names.lookup x = some .local) && decide (C.sc.names.lookup y = some .local) &&
      decide (C.sc.names.lookup z = some .local) && (py.line == px.line) && (pz.line == px.line) && !(x == y) && !(x == z) && !(y == z) && parOk C.sc ts vs && decide (vs.length = 3)
  | _, _ => false
mutual
def chkS (T : Tab) (C : Ctx) : IS → Stmt → Bool
  | .never, _ => true
  | .asg t e, s => match vAssign s with | some ([tg], v, _) => chkG C t tg && chkE T e C v && kAsg C t e tg v | _ => false
  | .par is es, s => match vAssign s with
    | some ([tg], v, _) => (match vTup tg, vTup v with | some ts, some vs => kPar C is ts vs && chkEs T es C vs | _, _ => false)
    | _ => false
  | .seti o i e, s => match vAssign s with
    | some ([tg], v, _) => (match vSub tg with | some (l, r) => chkE T e C v && chkE T o C l && chkE T i C r && plainIx r | none => false)
    | _ => false
  | .aug i o e, s => match vAug s with
    | some (tg, p, v, _) => (match vName tg with | some (x, _) => chkN C i x && decide (o = p) && (decide (o = .Add) || decide (o = .Sub)) && chkE T e C v | none => false)
    | none => false
  | .expr e, s => match vExprS s with | some (v, _) => notComp v && chkE T e C v | none => false
  | .ret _ e, s => match vRet s with | some (some v) => chkE T e C v | _ => false
  | .retN, s => match vRet s with | some none => true | _ => false
  | .ite c a b, s => match vIfS s with | some (x, l, r) => chkT T c C x && chkSs T C a l && chkSs T C b r | none => false
  | .for_ s t b, st => match vFor st with | some (tg, it, l, []) => chkI T s C tg it && notSet it && chkG C t tg && chkSs T C b l | _ => false
  | .whl c b, st => match vWhile st with | some (x, l, []) => chkT T c C x && chkSs T C b l | _ => false
  | .pass, s => isPass s
  | .brk, s => isBrk s
  | .cont, s => isCont s
def chkSs (T : Tab) (C : Ctx) : ISs → List Stmt → Bool
  | .nil, [] => true
  | .nil, _ :: _ => false
  | .cons _ _, [] => false
  | .cons s r, l :: ls => chkS T C s l && chkSs T C r ls
end
section
variable {T : Tab} {Γ : En} {C : Ctx} {X : Cx}
structure GS (T : Tab) (Γ : En) (C : Ctx) (X : Cx) : Prop where
  gx : GX T Γ C X
  kind : X.env.scope.kind = .function
def OkS (T : Tab) (Γ : En) (C : Ctx) (i : IS) : Prop := ∀ (X : Cx) (s : Stmt), GS T Γ C X → chkS T C i s = true → PS X s (tS X.K (exS Γ i))
def OkSs (T : Tab) (Γ : En) (C : Ctx) (i : ISs) : Prop := ∀ (X : Cx) (s : List Stmt), GS T Γ C X → chkSs T C i s = true → PSs X s (tS X.K (exSs Γ i))
theorem rd_mono' {K : Fg} {es : Sig → IH → R (List D)} {σ : L2.St} {H : Hp} {Q Q' : It → Hp → Prop} (h : iI K es σ H Q) (k : ∀ J H', Q J H' → Q' J H') : iI K es σ H Q' := rd_mono h k
theorem tLc_mono {K : Fg} {es : Sig → IH → R (List D)} {g : TG} {tt : TT} {te : TE} {vs : List Nat} : ∀ σ H Q Q', tLc (iI K es) g tt te vs σ H Q → (∀ v H', Q v H' → Q' v H') → tLc (iI K es) g tt te vs σ H Q' := by
  intro σ H Q Q' h k
  refine rd_mono h fun J H1 z D hD => ?_
  obtain ⟨W, w0, t⟩ := z D hD
  exact ⟨W, w0, fun i m H w => (t i m H w).imp (fun ⟨a, q⟩ => ⟨a, k _ _ q⟩) id⟩
theorem tLc2_mono {K : Fg} {es es1 : Sig → IH → R (List D)} {g g1 : TG} {tt tt1 : TT} {te : TE} {vs vs1 : List Nat} : ∀ σ H Q Q', tLc2 (iI K es) g tt (iI K es1) g1 tt1 te vs vs1 σ H Q → (∀ v H', Q v H' → Q' v H') → tLc2 (iI K es) g tt (iI K es1) g1 tt1 te vs vs1 σ H Q' := by
  intro σ H Q Q' h k
  refine rd_mono h fun J H1 z D hD => ?_
  obtain ⟨W, w0, t⟩ := z D hD
  exact ⟨W, w0, fun i m H w => (t i m H w).imp (fun ⟨a, q⟩ => ⟨a, k _ _ q⟩) id⟩
theorem GX.N' (G : GX T Γ C X) {i : Nat} {x : Str} (h : C.N[i]? = some x) : X.N[i]? = some x := by rw [G.ok.N]; exact h
theorem GX.sc' (G : GX T Γ C X) {x : Str} {k : NameKind} (h : C.sc.names.lookup x = some k) : X.env.scope.names.lookup x = some k := by rw [G.ok.sc]; exact h
theorem mS_asg {t : Tgt} {e : IE} : OkS T Γ C (.asg t e) := by
  intro X s G h
  simp only [chkS] at h
  cases hv : vAssign s with
  | none => rw [hv] at h; cases h
  | some y =>
    obtain ⟨ts, v, p⟩ := y
    rw [hv] at h
    obtain rfl := vAssign_ok hv
    match ts, h with
    | [tg], hh =>
      simp only [Bool.and_eq_true] at hh
      obtain ⟨⟨h1, h2⟩, h3⟩ := hh
      unfold kAsg at h3
      simp only [Bool.and_eq_true, Bool.or_eq_true] at h3
      obtain ⟨h3, h4⟩ := h3
      have hN := G.gx.nd
      have hg := g_ok G.gx.ok t tg h1
      have he := eE e C X v G.gx h2
      have h5 : (assignEach [tg] X.env).map (·.2) = [assign tg X.env] := by rw [asgEach_cons h3]; rfl
      rcases h4 with (⟨h6, h7⟩ | h4) | h4
      · refine z_asg he hg ?_ (swNone_ok (by rw [G.gx.ok.sc]; exact h7)) h5
        cases v <;> first | rfl | cases h6
      · cases hl : vLc v with
        | none => rw [hl] at h4; cases h4
        | some y =>
          obtain ⟨x, gs, scope, lp⟩ := y
          rw [hl] at h4
          obtain rfl := vLc_ok hl
          dsimp only at h4
          cases hn : vName tg with
          | none => rw [hn] at h4; cases h4
          | some z =>
            obtain ⟨y, tp⟩ := z
            rw [hn] at h4
            obtain rfl := vName_ok hn
            match t, h4, h1, hg with
            | .nm i, h4, h1, hg =>
              dsimp only at h4
              by_cases hb : swB C.sc y tp scope lp = true
              · rw [if_pos hb] at h4
                have hsw : ∀ l, swapsWith (.ListComp x gs scope lp) (some (.Name y tp)) l X.env = pure true := fun l => by
                  rw [sw_lc G.kind, G.gx.ok.sc, hb]
                have hyl : X.env.scope.names.lookup y = some .local := by
                  unfold swB at hb
                  simp only [Bool.and_eq_true, decide_eq_true_eq] at hb
                  exact G.gx.sc' hb.1.1
                have hyN : X.N[i]? = some y := by
                  have h1' : chkN C i y = true := h1
                  unfold chkN at h1'
                  simp only [Bool.and_eq_true, decide_eq_true_eq] at h1'
                  exact G.gx.N' h1'.1
                match e, h4, h2 with
                | .lc1 m own elt s t c, _, h2 =>
                  rw [chkE_lc1] at h2
                  match gs, h2, hsw with
                  | [⟨tg, it, ifs, 0⟩], h2, hsw =>
                    simp only [vLc, Bool.and_eq_true] at h2
                    obtain ⟨⟨⟨⟨⟨⟨k1, k2⟩, k3⟩, k4⟩, k5⟩, k6⟩, k7⟩ := h2
                    refine asg_new (m := m) (ps_setLc (g := rG X.K t) (tt := tT X.K (evT Γ c)) (te := tE X.K (evE Γ elt)) G.gx.ok.calm hN hyN hyl (hsw _) (eI s C X tg it G.gx k2) (blkOk_by (by rw [G.gx.ok.N, G.gx.ok.sc]; exact k1))
                      (fun s1 H1 a cl fp => g_ok (G.gx.blk scope s1 H1 cl a fp).ok t tg k5) (fun s1 H1 a cl fp => ?_) (fun s1 H1 a cl fp => eE elt _ _ x (G.gx.blk scope s1 H1 cl a fp) k7) (fold_ok k3)) (lc1_core (all_in k4)) tLc_mono
                    match ifs, k6 with
                    | [], k6 =>
                      obtain rfl := isYes_ok k6
                      exact pts_yes
                    | [q], k6 => exact pts_one (eT c _ _ q (G.gx.blk scope s1 H1 cl a fp) k6)
                | .lc2 m own ow1 elt s t c s1 t1 c1, _, h2 =>
                  rw [chkE_lc2] at h2
                  match gs, h2, hsw with
                  | [⟨tg, it, ifs, 0⟩, ⟨tg1, it1, ifs1, 0⟩], h2, hsw =>
                    simp only [vLc, Bool.and_eq_true] at h2
                    obtain ⟨⟨⟨⟨⟨⟨⟨⟨⟨⟨⟨⟨k1, k2⟩, k3⟩, k4⟩, k5⟩, k6⟩, k7⟩, k8⟩, k9⟩, k10⟩, k11⟩, k12⟩, k13⟩ := h2
                    refine asg_new (m := m) (ps_setLc2 (g := rG X.K t) (tt := tT X.K (evT Γ c)) (g1 := rG X.K t1) (tt1 := tT X.K (evT Γ c1)) (te := tE X.K (evE Γ elt)) G.gx.ok.calm hN hyN hyl (hsw _) (eI s C X tg it G.gx k2) (blkOk_by (by rw [G.gx.ok.N, G.gx.ok.sc]; exact k1)) (all_in k7)
                      (fun s1 H1 a cl fp => g_ok (G.gx.blk scope s1 H1 cl a fp).ok t tg k8) (fun s2 H1 a cl fp => ?_) (fun s2 H1 a cl fp => eI s1 _ _ tg1 it1 (G.gx.blk scope s2 H1 cl a fp) k12) (fun s1 H1 a cl fp => g_ok (G.gx.blk scope s1 H1 cl a fp).ok t1 tg1 k9) (fun s2 H1 a cl fp => ?_)
                      (fun s1 H1 a cl fp => eE elt _ _ x (G.gx.blk scope s1 H1 cl a fp) k13) (fold_ok k3) (fun env => fold_ok k4)) (lc2_core' (all_in k5) (all_in k6)) tLc2_mono
                    · match ifs, k10 with
                      | [], k6 =>
                        obtain rfl := isYes_ok k6
                        exact pts_yes
                      | [q], k6 => exact pts_one (eT c _ _ q (G.gx.blk scope s2 H1 cl a fp) k6)
                    · match ifs1, k11 with
                      | [], k6 =>
                        obtain rfl := isYes_ok k6
                        exact pts_yes
                      | [q], k6 => exact pts_one (eT c1 _ _ q (G.gx.blk scope s2 H1 cl a fp) k6)
              · refine z_asg he hg ?_ rfl h5
                show swapsWith (.ListComp x gs scope lp) (some (.Name y tp)) p.line X.env = pure false
                rw [sw_lc G.kind, G.gx.ok.sc]
                exact congrArg pure (Bool.eq_false_iff.mpr hb)
      · cases hl : vDc v with
        | none => rw [hl] at h4; cases h4
        | some y =>
          obtain ⟨kx, vx, gs, scope, lp⟩ := y
          rw [hl] at h4
          obtain rfl := vDc_ok hl
          dsimp only at h4
          cases hn : vName tg with
          | none => rw [hn] at h4; cases h4
          | some z =>
            obtain ⟨y, tp⟩ := z
            rw [hn] at h4
            obtain rfl := vName_ok hn
            match t, h4, h1, hg with
            | .nm i, h4, h1, hg =>
              dsimp only at h4
              by_cases hb : swB C.sc y tp scope lp = true
              · rw [if_pos hb] at h4
                have hsw : ∀ l, swapsWith (.DictComp kx vx gs scope lp) (some (.Name y tp)) l X.env = pure true := fun l => by
                  rw [sw_dc G.kind, G.gx.ok.sc, hb]
                have hyl : X.env.scope.names.lookup y = some .local := by
                  unfold swB at hb
                  simp only [Bool.and_eq_true, decide_eq_true_eq] at hb
                  exact G.gx.sc' hb.1.1
                have hyN : X.N[i]? = some y := by
                  have h1' : chkN C i y = true := h1
                  unfold chkN at h1'
                  simp only [Bool.and_eq_true, decide_eq_true_eq] at h1'
                  exact G.gx.N' h1'.1
                match e, h4, h2 with
                | .dc1 tk m own k v s t c, _, h2 =>
                  rw [chkE_dc1] at h2
                  match gs, h2, hsw with
                  | [⟨tg, it, ifs, 0⟩], h2, hsw =>
                    simp only [vDc, Bool.and_eq_true] at h2
                    obtain ⟨⟨⟨⟨⟨⟨⟨k1, k2⟩, k3⟩, k4⟩, k5⟩, k6⟩, k7⟩, k8⟩ := h2
                    have hu := G.gx.hu
                    refine z_setDc (tk := tk) (by omega) G.gx.ok.calm hN hyN hyl (hsw _) (eI s C X tg it G.gx k2) (blkOk_by (by rw [G.gx.ok.N, G.gx.ok.sc]; exact k1)) (all_in k4) (fold_ok k3) fun s1 H1 a cl fp =>
                      ⟨g_ok (G.gx.blk scope s1 H1 cl a fp).ok t tg k5, ?_, eE k _ _ kx (G.gx.blk scope s1 H1 cl a fp) k7, eE v _ _ vx (G.gx.blk scope s1 H1 cl a fp) k8⟩
                    match ifs, k6 with
                    | [], k6 =>
                      obtain rfl := isYes_ok k6
                      exact pts_yes
                    | [q], k6 => exact pts_one (eT c _ _ q (G.gx.blk scope s1 H1 cl a fp) k6)
              · refine z_asg he hg ?_ rfl h5
                show swapsWith (.DictComp kx vx gs scope lp) (some (.Name y tp)) p.line X.env = pure false
                rw [sw_dc G.kind, G.gx.ok.sc]
                exact congrArg pure (Bool.eq_false_iff.mpr hb)
theorem mS_par {is : List Nat} {es : IEs} : OkS T Γ C (.par is es) := by
  intro X s G h
  simp only [chkS] at h
  cases hv : vAssign s with
  | none => rw [hv] at h; cases h
  | some y =>
    obtain ⟨ts, v, p⟩ := y
    rw [hv] at h
    obtain rfl := vAssign_ok hv
    match ts, h with
    | [tg], hh =>
      dsimp only at hh
      cases ht : vTup tg with
      | none => rw [ht] at hh; cases hh
      | some ts =>
        cases hw : vTup v with
        | none => rw [ht, hw] at hh; cases hh
        | some vs =>
          rw [ht, hw] at hh
          obtain ⟨k1, p1, rfl⟩ := vTup_ok ht
          obtain ⟨k2, p2, rfl⟩ := vTup_ok hw
          simp only [Bool.and_eq_true] at hh
          obtain ⟨h1, h2⟩ := hh
          have hN := G.gx.nd
          have ha := okEs (eEs es) C X vs G.gx h2
          match is, ts, h1 with
          | [i, j], [.Name x px, .Name y py], h1 =>
            simp only [kPar, Bool.and_eq_true, decide_eq_true_eq, Bool.not_eq_true'] at h1
            obtain ⟨⟨⟨⟨⟨⟨⟨⟨a1, a2⟩, a3⟩, a4⟩, a5⟩, a6⟩, a7⟩, a8⟩, a9⟩ := h1
            match vs, a9, a8, ha with
            | [a, b], _, a8, ha => exact z_par2 G.gx.ok.calm hN (G.gx.N' a1) (G.gx.N' a2) a3 (G.gx.sc' a4) (G.gx.sc' a5) ha a6 a7 (by rw [G.gx.ok.sc]; exact a8)
          | [i, j, l], [.Name x px, .Name y py, .Name z pz], h1 =>
            simp only [kPar, Bool.and_eq_true, decide_eq_true_eq, Bool.not_eq_true'] at h1
            obtain ⟨⟨⟨⟨⟨⟨⟨⟨⟨⟨⟨⟨⟨⟨⟨a1, a2⟩, a3⟩, b1⟩, b2⟩, b3⟩, c1⟩, c2⟩, c3⟩, d1⟩, d2⟩, e1⟩, e2⟩, e3⟩, a8⟩, a9⟩ := h1
            match vs, a9, a8, ha with
            | [a, b, c], _, a8, ha => exact z_par3 G.gx.ok.calm hN (G.gx.N' a1) (G.gx.N' a2) (G.gx.N' a3) b1 b2 b3 (G.gx.sc' c1) (G.gx.sc' c2) (G.gx.sc' c3) ha d1 d2 e1 e2 e3 (by rw [G.gx.ok.sc]; exact a8)
theorem mS_seti {o i e : IE} : OkS T Γ C (.seti o i e) := by
  intro X s G h
  simp only [chkS] at h
  cases hv : vAssign s with
  | none => rw [hv] at h; cases h
  | some y =>
    obtain ⟨ts, v, p⟩ := y
    rw [hv] at h
    obtain rfl := vAssign_ok hv
    match ts, h with
    | [tg], hh =>
      dsimp only at hh
      cases ht : vSub tg with
      | none => rw [ht] at hh; cases hh
      | some z =>
        obtain ⟨l, r⟩ := z
        rw [ht] at hh
        obtain ⟨p1, rfl⟩ := vSub_ok ht
        simp only [Bool.and_eq_true] at hh
        obtain ⟨⟨⟨h1, h2⟩, h3⟩, h4⟩ := hh
        have hu := G.gx.hu
        refine z_seti (by omega) (eE e C X v G.gx h1) (eE o C X l G.gx h2) (eE i C X r G.gx h3) (fun u => ?_) ?_ ?_
        · cases r <;> first | rfl | cases h4
        · cases v <;> rfl
        · cases v <;> rfl
theorem mS_aug {i : Nat} {o : Operator} {e : IE} : OkS T Γ C (.aug i o e) := by
  intro X s G h
  simp only [chkS] at h
  cases hv : vAug s with
  | none => rw [hv] at h; cases h
  | some y =>
    obtain ⟨tg, q, v, p⟩ := y
    rw [hv] at h
    obtain rfl := vAug_ok hv
    dsimp only at h
    cases ht : vName tg with
    | none => rw [ht] at h; cases h
    | some z =>
      obtain ⟨x, xp⟩ := z
      rw [ht] at h
      obtain rfl := vName_ok ht
      simp only [Bool.and_eq_true, Bool.or_eq_true, decide_eq_true_eq] at h
      obtain ⟨⟨⟨h1, rfl⟩, h3⟩, h4⟩ := h
      unfold chkN at h1
      simp only [Bool.and_eq_true, decide_eq_true_eq] at h1
      obtain ⟨k1, k2⟩ := h1
      cases hl : C.sc.names.lookup x with
      | none => rw [hl] at k2; cases k2
      | some k =>
        rw [hl] at k2
        have hs := G.gx.sc' hl
        cases k with
        | «local» => exact z_aug G.gx.nd (G.gx.N' k1) (.inl hs) (.inr hs) (eE e C X v G.gx h4) h3
        | cell => exact z_aug G.gx.nd (G.gx.N' k1) (.inr hs) (.inl (by rw [G.gx.ok.fn]; exact k2)) (eE e C X v G.gx h4) h3
        | _ => cases k2
theorem mS_expr {e : IE} : OkS T Γ C (.expr e) := by
  intro X s G h
  simp only [chkS] at h
  cases hv : vExprS s with
  | none => rw [hv] at h; cases h
  | some y =>
    obtain ⟨v, p⟩ := y
    rw [hv] at h
    obtain rfl := vExprS_ok hv
    simp only [Bool.and_eq_true] at h
    refine z_expr (eE e C X v G.gx h.2) ?_
    have h1 := h.1
    cases v <;> first | rfl | cases h1
theorem mS_ret {fz : Bool} {e : IE} : OkS T Γ C (.ret fz e) := by
  intro X s G h
  simp only [chkS] at h
  cases hv : vRet s with
  | none => rw [hv] at h; cases h
  | some y =>
    rw [hv] at h
    obtain ⟨p, rfl⟩ := vRet_ok hv
    cases y with
    | none => cases h
    | some v =>
      cases fz with
      | true => exact z_retF (eE e C X v G.gx h)
      | false => exact z_ret (eE e C X v G.gx h)
theorem mS_retN : OkS T Γ C .retN := by
  intro X s G h
  simp only [chkS] at h
  cases hv : vRet s with
  | none => rw [hv] at h; cases h
  | some y =>
    rw [hv] at h
    obtain ⟨p, rfl⟩ := vRet_ok hv
    cases y with
    | none => exact z_retN
    | some v => cases h
theorem mS_ite {c : IT} {a b : ISs} (ia : OkSs T Γ C a) (ib : OkSs T Γ C b) : OkS T Γ C (.ite c a b) := by
  intro X s G h
  simp only [chkS] at h
  cases hv : vIfS s with
  | none => rw [hv] at h; cases h
  | some y =>
    obtain ⟨x, l, r⟩ := y
    rw [hv] at h
    obtain ⟨p, rfl⟩ := vIfS_ok hv
    simp only [Bool.and_eq_true] at h
    exact z_ite (eT c C X x G.gx h.1.1) (ia X l G h.1.2) (ib X r G h.2)
theorem mS_for {s : Src} {t : Tgt} {b : ISs} (ib : OkSs T Γ C b) : OkS T Γ C (.for_ s t b) := by
  intro X st G h
  simp only [chkS] at h
  cases hv : vFor st with
  | none => rw [hv] at h; cases h
  | some y =>
    obtain ⟨tg, it, l, r⟩ := y
    rw [hv] at h
    obtain ⟨p, rfl⟩ := vFor_ok hv
    cases r with
    | cons _ _ => cases h
    | nil =>
      simp only [Bool.and_eq_true] at h
      obtain ⟨⟨⟨h1, h2⟩, h3⟩, h4⟩ := h
      exact z_for G.gx.xe G.gx.ok.calm (eI s C X tg it G.gx h1) (g_ok G.gx.ok t tg h3) (ib X l G h4) (fold_ok h2)
theorem mS_whl {c : IT} {b : ISs} (ib : OkSs T Γ C b) : OkS T Γ C (.whl c b) := by
  intro X st G h
  simp only [chkS] at h
  cases hv : vWhile st with
  | none => rw [hv] at h; cases h
  | some y =>
    obtain ⟨x, l, r⟩ := y
    rw [hv] at h
    obtain ⟨p, rfl⟩ := vWhile_ok hv
    cases r with
    | cons _ _ => cases h
    | nil =>
      simp only [Bool.and_eq_true] at h
      exact z_whl G.gx.xe (eT c C X x G.gx h.1) (ib X l G h.2)
theorem mS_pass : OkS T Γ C .pass := by
  intro X s G h
  obtain ⟨p, rfl⟩ := isPass_ok h
  exact z_pass
theorem mS_brk : OkS T Γ C .brk := by
  intro X s G h
  obtain ⟨p, rfl⟩ := isBrk_ok h
  exact z_brk
theorem mS_cont : OkS T Γ C .cont := by
  intro X s G h
  obtain ⟨p, rfl⟩ := isCont_ok h
  exact z_cont
theorem mSs_nil : OkSs T Γ C .nil := by
  intro X s G h
  cases s with
  | nil => exact z_nil
  | cons _ _ => simp [chkSs] at h
theorem mSs_cons {s : IS} {r : ISs} (is : OkS T Γ C s) (ir : OkSs T Γ C r) : OkSs T Γ C (.cons s r) := by
  intro X l G h
  cases l with
  | nil => simp [chkSs] at h
  | cons a l =>
    simp only [chkSs, Bool.and_eq_true] at h
    exact z_cons (is X a G h.1) (ir X l G h.2)
mutual
theorem xS : ∀ i : IS, OkS T Γ C i
  | .never => fun X s G h => z_never
  | .asg _ _ => mS_asg
  | .par _ _ => mS_par
  | .seti _ _ _ => mS_seti
  | .aug _ _ _ => mS_aug
  | .expr _ => mS_expr
  | .ret _ _ => mS_ret
  | .retN => mS_retN
  | .ite _ a b => mS_ite (xSs a) (xSs b)
  | .for_ _ _ b => mS_for (xSs b)
  | .whl _ b => mS_whl (xSs b)
  | .pass => mS_pass
  | .brk => mS_brk
  | .cont => mS_cont
theorem xSs : ∀ i : ISs, OkSs T Γ C i
  | .nil => mSs_nil
  | .cons s r => mSs_cons (xS s) (xSs r)
end
end
end VI

/-! VIs: the defs of the table, by the depth of their calls; the law's end. -/
namespace VI
open PySem PySem.Spec PyProof.Rows L2

def chkF (T : Tab) (t : FT) : Bool :=
  kindFn (defScope t.st) && !(defScope t.st).isCoroutine && !(defScope t.st).isGenerator && decide (t.N.Nodup) && decide (t.N.take t.ps.length = t.ps) &&
    t.ps.all (fun x => match (defScope t.st).names.lookup x with | some .local => true | some .cell => true | _ => false) && (defScope t.st).names.all (fun y => match y.2 with | .free => false | _ => true) &&
    decide (t.fn.np = t.ps.length) && decide (t.fn.ns = t.N.length) && chkSs T ⟨t.N, defScope t.st, fun _ => true⟩ t.fn.body (defBody t.st)
/-- the ways to call the f-th def with keywords -/
def Tab.ways (T : Tab) (f : Nat) : List (Nat × List Str × List Nat) := (T.W.filter fun q => q.1 == f).map (·.2)
structure Has (K : Fg) (mg : Str → Option Value) (W : List (Nat × List Str × List Nat)) (t : FT) : Prop where
  ex : ∃ f fd, mg t.x = some (.ref f) ∧ Fun K t.x t.x t.st f fd ∧ (∀ us : List Value, us.length = t.ps.length → bindArgs fd ⟨us, []⟩ = pure (t.ps.zip us)) ∧ ∀ q ∈ W, KB fd t.ps q.1 q.2.1 q.2.2
structure TabOk (T : Tab) (w : World) (K : Fg) (mg : Str → Option Value) : Prop where
  fn : ∀ f t, T.F[f]? = some t → Has K mg (T.ways f) t
  gl : ∀ y ∈ T.G, ∃ u v, mg y.1 = some u ∧ RelV v u ∧ ∀ ρ H, Rl ρ K H y.2 v
  bl : ∀ x ∈ T.B, mg x = none
  gd : ∀ y ∈ T.GD, ∃ a, mg y.1 = some (.ref a) ∧ ∀ z d, y.2.lookup z = some d → ∃ v, KDct K w a z v ∧ ∀ ρ H, Rl ρ K H d v
def Tab.gl (T : Tab) (g : Nat) : D := (T.G[g]?.map (·.2)).getD .non
def Tab.gd (T : Tab) (g : Nat) : List (Str × D) := (T.GD[g]?.map (·.2)).getD []
def Tab.run (T : Tab) (fuel n : Nat) : Nat → List D → IH → R D := VI.run (T.F.map (·.fn)) T.gl T.gd fuel n
def Tab.en (T : Tab) (fuel n : Nat) : En := ⟨T.run fuel n, T.gl, T.gd, fuel⟩
section
variable {T : Tab} {K : Fg} {mg : Str → Option Value} {P : Program} {w : World} {base : Heap} {fuel : Nat}
theorem startI_ok {ρ : Ro} {H : Hp} {N : List Str} {ds : List D} {vs : List V} (r : Rls ρ K H ds vs) : SlR ρ K H (startI N.length ds) (L2.start N vs) := by
  have hl := r.length
  refine ⟨by simp [startI, L2.start, hl], fun i d e => ?_⟩
  unfold startI at e
  by_cases hi : i < ds.length
  · rw [List.getElem?_append_left (by simpa using hi), List.getElem?_map] at e
    cases hd : ds[i]? with
    | none => rw [hd] at e; cases e
    | some d' =>
      rw [hd] at e
      cases e
      obtain ⟨v, h1, h2⟩ := r.get hd
      refine ⟨v, ?_, h2⟩
      unfold L2.start
      rw [List.getElem?_append_left (by rw [List.length_map, ← hl]; exact hi), List.getElem?_map, h1]
      rfl
  · rw [List.getElem?_append_right (by simpa using hi)] at e
    have := List.getElem?_eq_some_iff.mp e
    obtain ⟨_, z⟩ := this
    rw [List.getElem_replicate] at z
    cases z
theorem fn_ok (O : TabOk T w K mg) (hc : ∀ t ∈ T.F, chkF T t = true) : ∀ (n f : Nat) (t : FT), T.F[f]? = some t → ∀ fa fd, Fun K t.x t.x t.st fa fd → FnG P w K mg base CX0 n fa fd t.ps (spC K (T.en fuel n) f t.ps.length)
  | 0, f, t, ht, fa, fd, F => by
    refine ⟨fun vs H Q E h => h.1, fun {A outer s H args us vs Q E} hr gu he hb hv hs => ?_⟩
    obtain ⟨_, ρ, h, ds, _, _, p⟩ := hs
    exact (show False from p).elim
  | n + 1, f, t, ht, fa, fd, F => by
    have hm := List.mem_of_getElem? ht
    have c := hc t hm
    unfold chkF at c
    simp only [Bool.and_eq_true, decide_eq_true_eq, Bool.not_eq_true', List.all_eq_true] at c
    obtain ⟨⟨⟨⟨⟨⟨⟨⟨⟨c1, c2⟩, c3⟩, c4⟩, c5⟩, c6⟩, c7⟩, c8⟩, c9⟩, c10⟩ := c
    have s6 : ∀ x ∈ t.ps, (defScope t.st).names.lookup x = some .local ∨ (defScope t.st).names.lookup x = some .cell := fun x hx => by
      have z := c6 x hx
      split at z
      · left; assumption
      · right; assumption
      · cases z
    have s7 : ∀ y ∈ (defScope t.st).names, y.2 ≠ .free := fun y hy e => by
      have z := c7 y hy
      rw [e] at z
      cases z
    have S : FnScope t.N t.ps (defScope t.st) := ⟨kindFn_ok c1, c2, c3, c4, c5, s6, s7⟩
    refine Fun.okG F S (fun vs H Q E h => h.1) fun cdv A outer s H vs Q E hr gu h => ?_
    obtain ⟨hl, ρ, h, ds, SS, r, p⟩ := h
    have G : GS T (T.en fuel n) ⟨t.N, defScope t.st, fun _ => true⟩ (cxOf CX0 P w K mg base t.N t.x (defScope t.st) fa cdv A outer s H E).nox := by
      refine ⟨⟨⟨rfl, c4, rfl, rfl, rfl⟩, rfl, ?_, ?_, fun g y hg => ?_, O.bl, fun f' t' ht' => ?_, fun g y hg => ?_⟩, kindFn_ok c1⟩
      · have := hr.un
        show (A.deeper _).units + 65 < _
        omega
      · exact gu
      · refine ⟨?_, O.gl y (List.mem_of_getElem? hg)⟩
        show T.gl g = _
        unfold Tab.gl
        rw [hg]
        rfl
      · obtain ⟨fa', fd', m', F', b', w'⟩ := (O.fn f' t' ht').ex
        refine ⟨n, fa', fd', fn_ok O hc n f' t' ht' fa' fd' F', hr, m', F'.kp, .all b', fun nn ks pm hq => w' (nn, ks, pm) ?_⟩
        unfold Tab.ways
        rw [List.mem_map]
        exact ⟨(f', nn, ks, pm), List.mem_filter.mpr ⟨hq, by simp⟩, rfl⟩
      · refine ⟨?_, O.gd y (List.mem_of_getElem? hg)⟩
        show T.gd g = _
        unfold Tab.gd
        rw [hg]
        rfl
    have hf : (T.F.map (·.fn))[f]? = some t.fn := by rw [List.getElem?_map, ht]; rfl
    have q : Post (RvE K) K ρ H Q (VI.run (T.F.map (·.fn)) T.gl T.gd fuel (n + 1) f ds h) := p
    unfold VI.run at q
    rw [hf] at q
    dsimp only at q
    rw [if_pos (by rw [c8, r.length]; exact hl)] at q
    cases hp : t.fn.pur with
    | false =>
      rw [hp] at q
      have p' : Post (RvE K) K ρ H Q (endF (exSs (T.en fuel n) t.fn.body (startI t.fn.ns ds) h)) := q
      refine ⟨_, xSs t.fn.body _ _ G c10, ρ, h, startI t.fn.ns ds, SS, by rw [c9]; exact startI_ok r, ?_⟩
      cases hx : exSs (T.en fuel n) t.fn.body (startI t.fn.ns ds) h with
      | bad => rw [hx] at p'; exact p'.elim
      | ok fl h' =>
        rw [hx] at p'
        cases fl with
        | rt d => exact fun ρ2 H2 k2 S2 v rv => p' ρ2 H2 v k2 S2 rv
        | nx σ => exact fun ρ2 H2 k2 S2 τ L => p' ρ2 H2 .non k2 S2 .non
        | bk σ => exact p'.elim
        | ct σ => exact p'.elim
    | true =>
      rw [hp] at q
      dsimp only at q
      cases pu : pureDs ds with
      | false => rw [pu, if_neg (by decide)] at q; exact q.elim
      | true =>
        rw [pu, if_pos rfl] at q
        have p' : Post (RvE K) K ρ H Q (endP h (exSs (T.en fuel n) t.fn.body (startI t.fn.ns ds) ⟨0, []⟩)) := q
        have S0 : SR (fun _ => none) K ⟨0, []⟩ H := ⟨(fun k o z => by cases z), (fun k a z => by cases z), (fun i j a z => by cases z), fun _ _ => rfl⟩
        have back : ∀ {ρ2 : Ro} {H2 : Hp}, Stp (fun _ => none) ρ2 H H2 → Stp ρ ρ H H2 ∧ SR ρ K h H2 := fun k2 => by
          have kk : Stp ρ ρ H _ := ⟨fun _ _ z => z, fun _ _ z => .inl z, k2.tup, k2.frz, fun b u e _ => k2.oth b u e (fun k z => by cases z), k2.gr⟩
          exact ⟨kk, SS.same kk fun a u e => k2.oth a u e (fun k z => by cases z)⟩
        refine ⟨_, xSs t.fn.body _ _ G c10, fun _ => none, ⟨0, []⟩, startI t.fn.ns ds, S0, by rw [c9]; exact startI_ok (r.pur pu), ?_⟩
        cases hx : exSs (T.en fuel n) t.fn.body (startI t.fn.ns ds) ⟨0, []⟩ with
        | bad => rw [hx] at p'; exact p'.elim
        | ok fl h' =>
          rw [hx] at p'
          cases fl with
          | rt d =>
            simp only [endP] at p'
            cases pd : pureD d with
            | false => rw [pd, if_neg (by decide)] at p'; exact p'.elim
            | true =>
              rw [pd, if_pos rfl] at p'
              exact fun ρ2 H2 k2 S2 v rv => p' ρ H2 v (back k2).1 (back k2).2 (rv.pur pd)
          | nx σ => exact fun ρ2 H2 k2 S2 τ L => p' ρ H2 .non (back k2).1 (back k2).2 .non
          | bk σ => exact p'.elim
          | ct σ => exact p'.elim
/-- how a def of the table is found behind the top -/
theorem has_mk {x : Str} {ps N : List Str} {st : Stmt} {fn : Fn} {W : List (Nat × List Str × List Nat)} {h : Heap} {f : Addr} {oc : Value} {od an : Option Addr} {osl : Array (Option Value)} {kV doc pm cdv ct : Value} (X : K.In h) (G : h.Ns mainGlobals mg)
    (a : PySem.W.nsIn K mainGlobals x = some (some (.ref f))) (l : K.lookup f = some ⟨oc, od, .func (PySem.W.fnOf x x (defArgs st) (defBody st) (defScope st) .none kV doc pm an cdv ct), osl⟩)
    (c : PySem.W.codeIn K cdv x = true) (k : PySem.W.keepIn K (.ref f) = true)
    (b : ∀ us : List Value, us.length = ps.length → bindArgs (PySem.W.fnOf x x (defArgs st) (defBody st) (defScope st) .none kV doc pm an cdv ct) ⟨us, []⟩ = pure (ps.zip us))
    (kb : ∀ q ∈ W, KB (PySem.W.fnOf x x (defArgs st) (defBody st) (defScope st) .none kV doc pm an cdv ct) ps q.1 q.2.1 q.2.2) : Has K mg W ⟨x, ps, N, st, fn⟩ :=
  ⟨⟨f, _, PySem.W.mg_of X G a, fun_mk l c k, b, kb⟩⟩
theorem blt_mk {x : Str} {h : Heap} (X : K.In h) (G : h.Ns mainGlobals mg) (a : PySem.W.nsIn K mainGlobals x = some none) : mg x = none := PySem.W.mg_none_of X G a
end
/-- the script as a value -/
def scriptD (ns : List Int) : D := .lst (ns.map D.int)
/-- the law's promise -/
def spL (K : Fg) (T : Tab) (fuel n f : Nat) : Sp := spC K (T.en fuel n) f 1
end VI

/-! VIt: what the module's top has written, and the law's end. -/
namespace VI
open PySem PySem.Spec PyProof.Rows L2

/-! ### a value of the written part -/
mutual
def readK (K : Fg) : Nat → Value → Option D
  | 0, _ => none
  | n + 1, v => match v with
    | .none => some .non
    | .bool b => some (.bl b)
    | .int i _ => some (.int i)
    | .str s _ => some (.str s)
    | .ref a => match K.lookup a with
      | some ⟨.type t, _, .seq its _, _⟩ => if t = "tuple" ∧ its.size ≤ 1000 then (readKs K n its.toList).map D.gt else none
      | _ => none
    | _ => none
def readKs (K : Fg) : Nat → List Value → Option (List D)
  | 0, _ => none
  | _ + 1, [] => some []
  | n + 1, v :: vs => match readK K n v with
    | some d => (readKs K n vs).map (d :: ·)
    | none => none
end
mutual
theorem readK_ok {K : Fg} : ∀ (n : Nat) (u : Value) (d : D), readK K n u = some d → ∃ v, RelV v u ∧ ∀ ρ H, Rl ρ K H d v
  | 0, _, _, h => by simp [readK] at h
  | n + 1, u, d, h => by
    unfold readK at h
    split at h
    · cases h; exact ⟨.non, rfl, fun _ _ => .non⟩
    · cases h; exact ⟨.bl _, rfl, fun _ _ => .bl _⟩
    · cases h; exact ⟨.int _, ⟨_, rfl⟩, fun _ _ => .int _⟩
    · cases h; exact ⟨.str _, ⟨_, rfl⟩, fun _ _ => .str _⟩
    · rename_i a
      split at h
      · rename_i t od its m sl hl
        split at h
        · rename_i hc
          obtain ⟨rfl, hz⟩ := hc
          cases hr : readKs K n its.toList with
          | none => rw [hr] at h; cases h
          | some ds =>
            rw [hr] at h
            cases h
            obtain ⟨vs, r, q⟩ := readKs_ok n its.toList ds hr
            exact ⟨.ref a, rfl, fun ρ H => .gt ⟨_, its, m, hl, rfl, rfl, Nat.le_trans hz (by rw [sizeLine_eq]; decide), r⟩ (q ρ H)⟩
        · cases h
      · cases h
    · cases h
theorem readKs_ok {K : Fg} : ∀ (n : Nat) (us : List Value) (ds : List D), readKs K n us = some ds → ∃ vs, Vals vs us ∧ ∀ ρ H, Rls ρ K H ds vs
  | 0, _, _, h => by simp [readKs] at h
  | n + 1, [], ds, h => by
    simp only [readKs] at h
    cases h
    exact ⟨[], .nil, fun _ _ => .nil⟩
  | n + 1, u :: us, ds, h => by
    simp only [readKs] at h
    cases h1 : readK K n u with
    | none => rw [h1] at h; cases h
    | some d =>
      rw [h1] at h
      cases h2 : readKs K n us with
      | none => rw [h2] at h; cases h
      | some ds' =>
        rw [h2] at h
        cases h
        obtain ⟨v, r, q⟩ := readK_ok n u d h1
        obtain ⟨vs, r', q'⟩ := readKs_ok n us ds' h2
        exact ⟨v :: vs, .cons r r', fun ρ H => .cons (q ρ H) (q' ρ H)⟩
end
section
variable {K : Fg} {mg : Str → Option Value} {h : Heap} {w : World}
theorem gl_mk {x : Str} {d : D} {u : Value} (X : K.In h) (G : h.Ns mainGlobals mg) (a : PySem.W.nsIn K mainGlobals x = some (some u)) (n : Nat) (r : readK K n u = some d) : ∃ u v, mg x = some u ∧ RelV v u ∧ ∀ ρ H, Rl ρ K H d v := by
  obtain ⟨v, r1, r2⟩ := readK_ok n u d r
  exact ⟨u, v, PySem.W.mg_of X G a, r1, r2⟩
/-- a dict of the module -/
theorem gd_mk {x : Str} {l : List (Str × D)} {a : Addr} {es : Array DictEntry} {n : Nat} (X : K.In h) (G : h.Ns mainGlobals mg) (ha : PySem.W.nsIn K mainGlobals x = some (some (.ref a))) (hl : K.lookup a = some ⟨.type "dict", none, .dict es n, #[]⟩) (hk : PySem.W.KeysLit w.params es.toList)
    (m : Nat) (hr : ∀ p ∈ l, (match PySem.W.nsIn K a p.1 with | some (some u) => readK K m u = some p.2 | _ => False)) : ∃ a, mg x = some (.ref a) ∧ ∀ z d, l.lookup z = some d → ∃ v, KDct K w a z v ∧ ∀ ρ H, Rl ρ K H d v := by
  refine ⟨a, PySem.W.mg_of X G ha, fun z d e => ?_⟩
  have mem : ∀ (l : List (Str × D)), l.lookup z = some d → (z, d) ∈ l := by
    intro l
    induction l with
    | nil => intro e; cases e
    | cons p l ih =>
      obtain ⟨y, c⟩ := p
      intro e
      rw [List.lookup_cons] at e
      by_cases hz : (z == y) = true
      · rw [hz] at e
        cases e
        rw [eq_of_beq hz]
        exact List.mem_cons_self
      · rw [Bool.eq_false_iff.mpr hz] at e
        exact List.mem_cons_of_mem _ (ih e)
  have q := hr (z, d) (mem l e)
  dsimp only at q
  split at q
  · rename_i u hu
    obtain ⟨v, r1, r2⟩ := readK_ok m u d q
    exact ⟨v, ⟨es, n, u, hl, hk, hu, r1⟩, r2⟩
  · exact q.elim
end
/-- THE LAW'S END -/
theorem law_walk {T : Tab} {l : PySem.W.OpenLaw} {n dep fuel : Nat} {q : Program} {loose : List Str} {XP : (Str → Option Value) → Heap → Prop} {YP : World → Heap → Prop} {d : DefRec} {K : Params → Fg} {t : FT} {x : Str}
    (hn : l.most = some n) (hn2 : n ≤ sizeLine) (hdf : d.params.defaults = []) (hr : Room dep callerA) (hY : ∀ (w : World) (h : Heap), YP w h → (K w.params).In h) (h0 : T.F[0]? = some t) (hx : t.x = d.name) (hps : t.ps = [x])
    (hc : T.F.all (chkF T) = true) (O : ∀ (w : World) (mg : Str → Option Value) (h : Heap), (K w.params).In h → h.Ns mainGlobals mg → TabOk T w (K w.params) mg)
    (plain : ∀ ns : List Int, ns.length ≤ n → ∃ h', T.run fuel dep 0 [scriptD ns] ⟨0, []⟩ = .ok (.bl true) h') : PySem.W.WalkO q loose XP YP l.row.toRowW d [] (fun f vs => PySem.call f vs) := by
  refine Att.attach_call hn hdf fun w s₀ s₁ mg mb fa o pm cd doc a vs ns G Y ho hd hcd hmg hobj hints hlen hg => ?_
  have KX := hY w _ Y
  have TO := O w mg _ KX G.T.g
  have hc' : ∀ t ∈ T.F, chkF T t = true := List.all_eq_true.mp hc
  obtain ⟨f1, fd1, m1, F1, b1, _⟩ := (TO.fn 0 t h0).ex
  have ef : fa = f1 := by
    rw [hx, hmg] at m1
    cases m1
    rfl
  refine law_callG (CX := CX0) (k := dep) (fd := fd1) (x := x) (sp := spC (K w.params) (T.en fuel dep) 0 1) KX G.T.g G.T.b G.T.builtins G.T.nolimit hg hobj hints (Nat.le_trans hlen hn2) hr (fun base => ?_) (fun s u => ?_) (fun H hO hS => ?_) fun H e s' z => z
  · have F2 := fn_ok (P := l.prog) (w := w) (base := base) (fuel := fuel) TO hc' dep 0 t h0 f1 fd1 F1
    rw [hps] at F2
    rw [ef]
    exact F2
  · have := b1 [u] (by rw [hps]; rfl)
    rw [hps] at this
    exact .of_eq this
  · have hz : (ns.map V.int).length ≤ sizeLine := by rw [List.length_map]; exact Nat.le_trans hlen hn2
    obtain ⟨h', e⟩ := plain ns hlen
    have fz : FzL (K w.params) H a (ns.map V.int) := by
      rcases hS with (hS | hS) | hS
      · exfalso
        rcases hO a with z | ⟨o, xs, z⟩ <;> rw [hS] at z <;> cases z
      · exact .inl hS
      · obtain ⟨ob, its, m, g1, g2, g3, g4, g5, g6⟩ := hS
        have e2 := KX _ _ g1
        rw [hobj] at e2
        cases e2
        cases g4
        exact .inr ⟨vs, _, g1, hz, by simpa using g6⟩
    have rs : ∀ ns : List Int, Rls (fun _ => none) (K w.params) H (ns.map D.int) (ns.map V.int) := by
      intro ns
      induction ns with
      | nil => exact .nil
      | cons i ns ih => exact .cons (.int i) ih
    refine ⟨rfl, fun _ => none, ⟨0, []⟩, [scriptD ns], ⟨(fun k o z => by cases z), (fun k a z => by cases z), (fun i j a z => by cases z), fun _ _ => rfl⟩, .cons (.lst fz (rs ns)) .nil, ?_⟩
    show Post _ _ _ _ _ (T.run fuel dep 0 [scriptD ns] ⟨0, []⟩)
    rw [e]
    intro ρ' H' v _ _ rv
    cases rv
    rfl
end VI

/-! VPa: plain words about runs of the interpreter. -/
namespace VI
open PySem L2

theorem bd_ok {α β : Type} {a : α} {h : IH} {f : α → IH → R β} : (R.ok a h).bd f = f a h := rfl
/-! ### numbers -/
theorem mulOk_of {i j : Int} (hi : i.natAbs < 2 ^ 1000) (hj : j.natAbs < 2 ^ 1000) : mulOk i j = true := by
  have a : i.natAbs.log2 < 1001 := by
    by_cases z : i.natAbs = 0
    · rw [z]; decide
    · exact Nat.lt_succ_of_lt ((Nat.log2_lt z).mpr hi)
  have b : j.natAbs.log2 < 1001 := by
    by_cases z : j.natAbs = 0
    · rw [z]; decide
    · exact Nat.lt_succ_of_lt ((Nat.log2_lt z).mpr hj)
  unfold mulOk
  rw [decide_eq_true_eq]
  omega
theorem mul_ok {i j : Int} {h : IH} (hi : i.natAbs < 2 ^ 1000) (hj : j.natAbs < 2 ^ 1000) : binD .Mult (.int i) (.int j) h = .ok (.int (i * j)) h := by
  show (if mulOk i j = true then _ else _) = _
  rw [if_pos (mulOk_of hi hj)]
theorem mod_ok {i j : Int} {h : IH} (hj : 0 < j) : binD .Mod (.int i) (.int j) h = .ok (.int (i % j)) h := by
  show (if 0 < j then _ else _) = _
  rw [if_pos hj]
theorem div_ok {i j : Int} {h : IH} (hj : 0 < j) (h2 : j.natAbs.log2 < 9000) : binD .FloorDiv (.int i) (.int j) h = .ok (.int (i / j)) h := by
  show (if 0 < j ∧ j.natAbs.log2 < 9000 then _ else _) = _
  rw [if_pos ⟨hj, h2⟩]
theorem big {i : Int} (h0 : 0 ≤ i) (h1 : i < 2 ^ 200) : i.natAbs < 2 ^ 1000 := by
  have : i.natAbs < 2 ^ 200 := by omega
  exact Nat.lt_trans this (by decide +kernel)
theorem int_ok {i : Int} {h : IH} : bltD .intI [.int i] h = .ok (.int i) h := rfl
theorem add_ok {i j : Int} {h : IH} : binD .Add (.int i) (.int j) h = .ok (.int (i + j)) h := rfl
theorem asg_ok {i : Nat} {d : D} {σ : Sig} : asgT (.nm i) d σ = some (σ.set i (some d)) := rfl
theorem abs_ok {i : Int} {h : IH} : bltD .absI [.int i] h = .ok (.int (if i < 0 then -i else i)) h := rfl
theorem gt_ok {i j : Int} {h : IH} : cmpD .Gt (.int i) (.int j) h = some (decide (j < i)) := rfl
theorem ge_ok {i j : Int} {h : IH} : cmpD .GtE (.int i) (.int j) h = some (decide (j ≤ i)) := rfl
theorem ansD_some {d : D} {h : IH} : ansD (some d) h = .ok d h := rfl
theorem ansT_some {b : Bool} {h : IH} : ansT (some b) h = .ok b h := rfl
theorem ansB_some {b : Bool} {h : IH} : ansB (some b) h = .ok (.bl b) h := rfl
/-! ### the heap -/
theorem idx_ref {h : IH} {k : Nat} {xs : List D} {i : Int} {d : D} (hk : h.get k = some (.lst xs)) (e : atI xs i = some d) : idxD (.ref k) (.int i) h = some d := by
  simp only [idxD, seqOf, lstOf, hk]
  exact e
theorem set_ref {h : IH} {k : Nat} {xs : List D} {i : Int} {d : D} {p : Nat} (hk : h.get k = some (.lst xs)) (e : ixN xs.length i = some p) : setD (.ref k) (.int i) d h = .ok () (h.set k (.lst (xs.set p d))) := by
  simp only [setD, hk, e]
theorem got_set {h : IH} {k : Nat} {o o' : Ob} (hk : h.get k = some o') : (h.set k o).get k = some o := by
  rw [get_set, if_pos rfl, hk]
  rfl
theorem got_push {h : IH} {o : Ob} : (h.push o).get h.n = some o := by
  rw [get_push, if_pos rfl]
/-! ### defs -/
section
variable {T : Tab} {fuel n f : Nat} {fn : Fn} {ds : List D} {h : IH}
theorem en_call : (T.en fuel n).call = T.run fuel n := rfl
theorem en_glob : (T.en fuel n).glob = T.gl := rfl
theorem en_gd : (T.en fuel n).gd = T.gd := rfl
theorem runP (hf : (T.F.map (·.fn))[f]? = some fn) (hp : fn.pur = true) (hl : ds.length = fn.np) (pu : pureDs ds = true) : T.run fuel (n + 1) f ds h = endP h (exSs (T.en fuel n) fn.body (startI fn.ns ds) ⟨0, []⟩) := by
  show VI.run _ _ _ _ (n + 1) f ds h = _
  unfold VI.run
  rw [hf]
  dsimp only
  rw [if_pos hl, hp]
  dsimp only
  rw [if_pos pu]
  rfl
theorem runI (hf : (T.F.map (·.fn))[f]? = some fn) (hp : fn.pur = false) (hl : ds.length = fn.np) : T.run fuel (n + 1) f ds h = endF (exSs (T.en fuel n) fn.body (startI fn.ns ds) h) := by
  show VI.run _ _ _ _ (n + 1) f ds h = _
  unfold VI.run
  rw [hf]
  dsimp only
  rw [if_pos hl, hp]
  rfl
end
/-! ### loops -/
theorem forN_acc {α : Type} {step : D → Sig → IH → R Fl} (f : α → D → α) (P : α → Sig → IH → Prop) : ∀ (xs : List D) (a : α) (σ : Sig) (h : IH), P a σ h → (∀ x ∈ xs, ∀ a σ h, P a σ h → ∃ σ' h', step x σ h = .ok (.nx σ') h' ∧ P (f a x) σ' h') →
    ∃ σ' h', forN step xs σ h = .ok (.nx σ') h' ∧ P (xs.foldl f a) σ' h'
  | [], a, σ, h, p, _ => ⟨σ, h, rfl, p⟩
  | x :: xs, a, σ, h, p, ok => by
    obtain ⟨σ1, h1, e1, p1⟩ := ok x List.mem_cons_self a σ h p
    obtain ⟨σ2, h2, e2, p2⟩ := forN_acc f P xs (f a x) σ1 h1 p1 fun y hy => ok y (List.mem_cons_of_mem _ hy)
    refine ⟨σ2, h2, ?_, p2⟩
    simp only [forN, e1, e2]
/-- does the loop run through -/
def goes {α : Type} (f : α → D → α) (g : α → D → Bool) : α → List D → Bool
  | _, [] => true
  | a, x :: xs => g a x && goes f g (f a x) xs
theorem forN_stop {α : Type} {step : D → Sig → IH → R Fl} (f : α → D → α) (g : α → D → Bool) (d : D) (P : α → Sig → IH → Prop) : ∀ (xs : List D) (a : α) (σ : Sig) (h : IH), P a σ h →
    (∀ x ∈ xs, ∀ a σ h, P a σ h → (g a x = true → ∃ σ' h', step x σ h = .ok (.nx σ') h' ∧ P (f a x) σ' h') ∧ (g a x = false → ∃ h', step x σ h = .ok (.rt d) h')) →
    (goes f g a xs = true → ∃ σ' h', forN step xs σ h = .ok (.nx σ') h' ∧ P (xs.foldl f a) σ' h') ∧ (goes f g a xs = false → ∃ h', forN step xs σ h = .ok (.rt d) h')
  | [], a, σ, h, p, _ => ⟨fun _ => ⟨σ, h, rfl, p⟩, fun z => by cases z⟩
  | x :: xs, a, σ, h, p, ok => by
    obtain ⟨o1, o2⟩ := ok x List.mem_cons_self a σ h p
    cases hg : g a x with
    | false =>
      obtain ⟨h1, e1⟩ := o2 hg
      refine ⟨fun z => ?_, fun _ => ⟨h1, by simp only [forN, e1]⟩⟩
      simp only [goes, hg, Bool.false_and] at z
      cases z
    | true =>
      obtain ⟨σ1, h1, e1, p1⟩ := o1 hg
      obtain ⟨c1, c2⟩ := forN_stop f g d P xs (f a x) σ1 h1 p1 fun y hy => ok y (List.mem_cons_of_mem _ hy)
      refine ⟨fun z => ?_, fun z => ?_⟩
      · simp only [goes, hg, Bool.true_and] at z
        obtain ⟨σ2, h2, e2, p2⟩ := c1 z
        exact ⟨σ2, h2, by simp only [forN, e1, e2], p2⟩
      · simp only [goes, hg, Bool.true_and] at z
        obtain ⟨h2, e2⟩ := c2 z
        exact ⟨h2, by simp only [forN, e1, e2]⟩
theorem turns_acc {α β : Type} {f : D → α → IH → R α} (P : List D → α → IH → Prop) : ∀ (xs done : List D) (a : α) (h : IH), P done a h → (∀ done x a h, P done a h → x ∈ xs → ∃ a' h', f x a h = .ok a' h' ∧ P (done ++ [x]) a' h') → ∃ a' h', turns f xs a h = .ok a' h' ∧ P (done ++ xs) a' h'
  | [], done, a, h, p, _ => ⟨a, h, rfl, by rw [List.append_nil]; exact p⟩
  | x :: xs, done, a, h, p, ok => by
    obtain ⟨a1, h1, e1, p1⟩ := ok done x a h p List.mem_cons_self
    obtain ⟨a2, h2, e2, p2⟩ := turns_acc (β := β) P xs (done ++ [x]) a1 h1 p1 fun d y b k q hy => ok d y b k q (List.mem_cons_of_mem _ hy)
    refine ⟨a2, h2, ?_, by rw [List.append_assoc] at p2; exact p2⟩
    simp only [turns, e1, e2]
/-- a comprehension's turns that filter and map -/
theorem turns_map {f : D → List D → IH → R (List D)} (g : D → Option D) {h : IH} (hz : ∀ x acc, acc.length < 1000 → x ∈ xs → f x acc h = .ok (match g x with | some y => acc ++ [y] | none => acc) h) : ∀ acc : List D, acc.length + xs.length < 1000 → turns f xs acc h = .ok (acc ++ xs.filterMap g) h := by
  induction xs with
  | nil => intro acc _; simp [turns]
  | cons x xs ih =>
    intro acc hl
    rw [List.length_cons] at hl
    have e := hz x acc (by omega) List.mem_cons_self
    simp only [turns, e]
    have ih' := ih (fun y acc hy hm => hz y acc hy (List.mem_cons_of_mem _ hm))
    cases hg : g x with
    | none => rw [List.filterMap_cons_none hg]; exact ih' acc (by omega)
    | some y => rw [List.filterMap_cons_some hg]; dsimp only; rw [ih' (acc ++ [y]) (by simp; omega)]; simp
/-- a list comprehension that filters and maps, and changes nothing -/
theorem lc1_map {Γ : En} {m : Bool} {own : List (Str × Nat)} {elt : IE} {s : Src} {t : Tgt} {c : IT} {σ : Sig} {h : IH} {xs : List D} (hI : evI Γ s σ h = .ok xs h) (g : D → Option D) (len : xs.length < 1000)
    (hx : ∀ x ∈ xs, ∃ σ2 b, asgT t x (wipeI σ (own.map (·.2))) = some σ2 ∧ evT Γ c σ2 h = .ok b h ∧ (b = true → ∃ y, evE Γ elt σ2 h = .ok y h ∧ g x = some y) ∧ (b = false → g x = none)) : evE Γ (.lc1 m own elt s t c) σ h = mkL m (xs.filterMap g) h := by
  have big : (1000 : Nat) < sizeLine := by rw [sizeLine_eq]; decide
  simp only [evE, hI, bd_ok]
  have key := turns_map (h := h) (xs := xs) (f := fun x acc h => match asgT t x (wipeI σ (own.map (·.2))) with
    | none => .bad
    | some σ2 => (evT Γ c σ2 h).bd fun d h => match d with
      | true => (evE Γ elt σ2 h).bd fun y h => if acc.length < sizeLine then .ok (acc ++ [y]) h else .bad
      | false => .ok acc h) g (fun x acc ha hm => by
    obtain ⟨σ2, b, e1, e2, e3, e4⟩ := hx x hm
    simp only [e1, e2, bd_ok]
    cases b with
    | true =>
      obtain ⟨y, e5, e6⟩ := e3 rfl
      simp only [e5, e6, bd_ok]
      rw [if_pos (by omega)]
    | false => simp only [e4 rfl]) [] (by simpa using len)
  exact (congrArg (fun r => R.bd r fun ys h => mkL m ys h) key).trans (by rw [bd_ok, List.nil_append])
/-! ### statements -/
section
variable {Γ : En} {s : IS} {r : ISs} {σ σ' : Sig} {h h' : IH} {d : D}
theorem exSs_nx (e : exS Γ s σ h = .ok (.nx σ') h') : exSs Γ (.cons s r) σ h = exSs Γ r σ' h' := by simp only [exSs, e, bd_ok]
theorem exSs_rt (e : exS Γ s σ h = .ok (.rt d) h') : exSs Γ (.cons s r) σ h = .ok (.rt d) h' := by simp only [exSs, e, bd_ok]
theorem exS_ite {c : IT} {a b : ISs} {k : Bool} (e : evT Γ c σ h = .ok k h') : exS Γ (.ite c a b) σ h = exSs Γ (if k then a else b) σ h' := by
  simp only [exS, e, bd_ok]
  cases k <;> rfl
theorem for_acc {α : Type} {i : Src} {t : Tgt} {b : ISs} {xs : List D} (hI : evI Γ i σ h = .ok xs h') (f : α → D → α) (P : α → Sig → IH → Prop) (a : α) (p : P a σ h')
    (ok : ∀ x ∈ xs, ∀ a σ h, P a σ h → ∃ σ2 σ' h', asgT t x σ = some σ2 ∧ exSs Γ b σ2 h = .ok (.nx σ') h' ∧ P (f a x) σ' h') : ∃ σ' h', exS Γ (.for_ i t b) σ h = .ok (.nx σ') h' ∧ P (xs.foldl f a) σ' h' := by
  simp only [exS, hI, bd_ok]
  refine forN_acc f P xs a σ h' p fun x hx a σ h q => ?_
  obtain ⟨σ2, σ1, h1, e1, e2, q2⟩ := ok x hx a σ h q
  exact ⟨σ1, h1, by simp only [e1, e2], q2⟩
theorem for_stop {α : Type} {i : Src} {t : Tgt} {b : ISs} {xs : List D} (hI : evI Γ i σ h = .ok xs h') (f : α → D → α) (g : α → D → Bool) (d : D) (P : α → Sig → IH → Prop) (a : α) (p : P a σ h')
    (ok : ∀ x ∈ xs, ∀ a σ h, P a σ h → ∃ σ2, asgT t x σ = some σ2 ∧ (g a x = true → ∃ σ' h', exSs Γ b σ2 h = .ok (.nx σ') h' ∧ P (f a x) σ' h') ∧ (g a x = false → ∃ h', exSs Γ b σ2 h = .ok (.rt d) h')) :
    (goes f g a xs = true → ∃ σ' h', exS Γ (.for_ i t b) σ h = .ok (.nx σ') h' ∧ P (xs.foldl f a) σ' h') ∧ (goes f g a xs = false → ∃ h', exS Γ (.for_ i t b) σ h = .ok (.rt d) h') := by
  simp only [exS, hI, bd_ok]
  refine forN_stop f g d P xs a σ h' p fun x hx a σ h q => ?_
  obtain ⟨σ2, e1, q1, q2⟩ := ok x hx a σ h q
  simp only [e1]
  exact ⟨q1, q2⟩
theorem forN_idx {step : D → Sig → IH → R Fl} (P : Nat → Sig → IH → Prop) : ∀ (xs : List D) (k : Nat) (σ : Sig) (h : IH), P k σ h → (∀ i x, xs[i]? = some x → ∀ σ h, P (k + i) σ h → ∃ σ' h', step x σ h = .ok (.nx σ') h' ∧ P (k + i + 1) σ' h') →
    ∃ σ' h', forN step xs σ h = .ok (.nx σ') h' ∧ P (k + xs.length) σ' h'
  | [], k, σ, h, p, _ => ⟨σ, h, rfl, p⟩
  | x :: xs, k, σ, h, p, ok => by
    obtain ⟨σ1, h1, e1, p1⟩ := ok 0 x rfl σ h p
    obtain ⟨σ2, h2, e2, p2⟩ := forN_idx P xs (k + 1) σ1 h1 p1 fun i y hy σ h q => by
      have z := ok (i + 1) y (by simpa using hy) σ h (by rw [show k + (i + 1) = k + 1 + i by omega]; exact q)
      rwa [show k + (i + 1) + 1 = k + 1 + i + 1 by omega] at z
    refine ⟨σ2, h2, by simp only [forN, e1, e2], ?_⟩
    rw [List.length_cons, show k + (xs.length + 1) = k + 1 + xs.length by omega]
    exact p2
/-- a loop by the number of the turn -/
theorem for_idx {i : Src} {t : Tgt} {b : ISs} {xs : List D} (hI : evI Γ i σ h = .ok xs h') (P : Nat → Sig → IH → Prop) (p : P 0 σ h')
    (ok : ∀ i x, xs[i]? = some x → ∀ σ h, P i σ h → ∃ σ2 σ' h', asgT t x σ = some σ2 ∧ exSs Γ b σ2 h = .ok (.nx σ') h' ∧ P (i + 1) σ' h') : ∃ σ' h', exS Γ (.for_ i t b) σ h = .ok (.nx σ') h' ∧ P xs.length σ' h' := by
  simp only [exS, hI, bd_ok]
  have q := forN_idx (step := fun x σ h => match asgT t x σ with
    | none => .bad
    | some σ2 => exSs Γ b σ2 h) P xs 0 σ h' p fun j x hx σ h q => by
      rw [Nat.zero_add] at q ⊢
      obtain ⟨σ2, σ1, h1, e1, e2, q2⟩ := ok j x hx σ h q
      exact ⟨σ1, h1, by simp only [e1, e2], q2⟩
  rw [Nat.zero_add] at q
  exact q
theorem turns_idx {f : D → List D → IH → R (List D)} (P : Nat → List D → IH → Prop) : ∀ (xs : List D) (k : Nat) (acc : List D) (h : IH), P k acc h → (∀ i x, xs[i]? = some x → ∀ acc' h, P (k + i) acc' h → acc'.length = acc.length + i → ∃ y h', f x acc' h = .ok (acc' ++ [y]) h' ∧ P (k + i + 1) (acc' ++ [y]) h') →
    ∃ ys h', turns f xs acc h = .ok ys h' ∧ P (k + xs.length) ys h' ∧ ys.length = acc.length + xs.length
  | [], k, acc, h, p, _ => ⟨acc, h, rfl, p, rfl⟩
  | x :: xs, k, acc, h, p, ok => by
    obtain ⟨y, h1, e1, p1⟩ := ok 0 x rfl acc h p rfl
    obtain ⟨ys, h2, e2, p2, l2⟩ := turns_idx P xs (k + 1) (acc ++ [y]) h1 p1 fun i z hz acc' h q l => by
      rw [List.length_append, List.length_singleton] at l
      have w := ok (i + 1) z (by simpa using hz) acc' h (by rw [show k + (i + 1) = k + 1 + i by omega]; exact q) (by omega)
      rwa [show k + (i + 1) + 1 = k + 1 + i + 1 by omega] at w
    rw [List.length_append, List.length_singleton] at l2
    refine ⟨ys, h2, by simp only [turns, e1, e2], ?_, by rw [List.length_cons]; omega⟩
    rw [List.length_cons, show k + (xs.length + 1) = k + 1 + xs.length by omega]
    exact p2
/-- a list comprehension without a test that may change the heap -/
theorem lc1_idx {m : Bool} {own : List (Str × Nat)} {elt : IE} {s : Src} {t : Tgt} {h1 : IH} {xs : List D} (hI : evI Γ s σ h = .ok xs h1) (P : Nat → List D → IH → Prop) (p : P 0 [] h1) (len : xs.length < 1000)
    (ok : ∀ i x, xs[i]? = some x → ∀ acc h, P i acc h → ∃ σ2 y h', asgT t x (wipeI σ (own.map (·.2))) = some σ2 ∧ evE Γ elt σ2 h = .ok y h' ∧ P (i + 1) (acc ++ [y]) h') : ∃ ys h', evE Γ (.lc1 m own elt s t .yes) σ h = mkL m ys h' ∧ P xs.length ys h' ∧ ys.length = xs.length := by
  have big : (1000 : Nat) < sizeLine := by rw [sizeLine_eq]; decide
  obtain ⟨ys, h2, e, q, l⟩ := turns_idx (f := fun x acc h => match asgT t x (wipeI σ (own.map (·.2))) with
    | none => .bad
    | some σ2 => (evT Γ .yes σ2 h).bd fun d h => match d with
      | true => (evE Γ elt σ2 h).bd fun y h => if acc.length < sizeLine then .ok (acc ++ [y]) h else .bad
      | false => .ok acc h) P xs 0 [] h1 p fun j x hx acc h q l => by
      rw [Nat.zero_add] at q ⊢
      obtain ⟨σ2, y, h3, e1, e2, q2⟩ := ok j x hx acc h q
      have lj : j < xs.length := (List.getElem?_eq_some_iff.mp hx).1
      rw [List.length_nil] at l
      exact ⟨y, h3, by simp only [e1, evT, bd_ok, e2]; rw [if_pos (by omega)], q2⟩
  rw [Nat.zero_add] at q
  refine ⟨ys, h2, ?_, q, by simpa using l⟩
  simp only [evE, hI, bd_ok]
  exact congrArg (fun r => R.bd r fun ys h => mkL m ys h) e
end
/-! ### slices -/
theorem cut_take (xs : List D) (i : Nat) : cutD xs none (some (i : Int)) = xs.take i := by
  unfold cutD
  rw [HT.sIx_none, HT.sIx_nat]
  simp only [List.drop_zero, Nat.sub_zero]
  rw [List.take_eq_take_iff]
  omega
theorem mem_cut {xs : List D} {lo hi : Option Int} {x : D} (h : x ∈ cutD xs lo hi) : x ∈ xs := List.mem_of_mem_drop (List.mem_of_mem_take h)
theorem pureDs_all : ∀ {xs : List D}, (∀ x ∈ xs, pureD x = true) → pureDs xs = true
  | [], _ => rfl
  | x :: xs, h => by
    simp only [pureDs, h x List.mem_cons_self, pureDs_all fun y hy => h y (List.mem_cons_of_mem _ hy), Bool.and_self]
end VI

namespace K02
open PySem PySem.Spec PyProof.Rows L2 VI
def top (i : Nat) : Stmt := PySem.Challenge.pw_stuckrows_k02_usual_modes_and_joins.main.body.getD i (.Pass ⟨0, 0, 0, 0⟩)
/-- law -/
def e0_0 : IE := (.call 17 (.cons (.var 4) (.cons (.idx (.var 2) (.cst (.int 0))) .nil)))
def q0_0 : IE := (.lc1 false [("_law_k", 7)] e0_0 (.rng1 (.call 18 (.cons (.var 4) (.cons (.cst (.int 8)) .nil)))) (.nm 7) .yes)
def l0_0 : ISs := (.cons (.asg (.nm 6) q0_0) (.cons (.asg (.nm 8) (.blt .reprV (.cons (.tup (.cons (.var 2) (.cons (.var 6) .nil))) .nil))) (.cons (.ite (.cmp .NotEq (.call 20 (.cons (.var 2) (.cons (.var 6) .nil))) (.call 24 (.cons (.var 2) (.cons (.var 6) .nil)))) (.cons (.ret true (.cst (.bl false))) .nil) .nil) (.cons (.ite (.cmp .NotEq (.blt .reprV (.cons (.call 26 (.cons (.var 2) (.cons (.blt .tuple (.cons (.var 6) .nil)) .nil))) .nil)) (.blt .reprV (.cons (.call 28 (.cons (.var 2) (.cons (.var 6) .nil))) .nil))) (.cons (.ret true (.cst (.bl false))) .nil) .nil) (.cons (.ite (.disj (.cmp .NotEq (.callk 20 ["some", "modes"] [1, 0] .nil (.cons (.blt .tuple (.cons (.var 6) .nil)) (.cons (.var 2) .nil))) (.call 24 (.cons (.var 2) (.cons (.var 6) .nil)))) (.cmp .NotEq (.blt .reprV (.cons (.tup (.cons (.var 2) (.cons (.var 6) .nil))) .nil)) (.var 8))) (.cons (.ret true (.cst (.bl false))) .nil) .nil) (.cons (.ite (.cmp .NotEq (.callk 26 ["some", "modes"] [1, 0] .nil (.cons (.var 6) (.cons (.var 2) .nil))) (.call 28 (.cons (.var 2) (.cons (.var 6) .nil)))) (.cons (.ret true (.cst (.bl false))) .nil) .nil) .nil))))))
def s0_0 : IS := (.for_ (.rng1 (.cst (.int 6))) (.nm 5) l0_0)
def l0_1 : ISs := (.cons s0_0 .nil)
def s0_1 : IS := (.for_ (.val (.bin .Add (.call 16 .nil) (.call 14 .nil))) (.nm 2) l0_1)
def l0_2 : ISs := (.cons (.asg (.nm 4) (.call 15 (.cons (.var 3) .nil))) (.cons s0_1 .nil))
def s0_2 : IS := (.for_ (.val (.slc (.bin .Add (.var 0) (.lst false (.cons (.cst (.int 0)) .nil))) .none (.some (.cst (.int 5))))) (.nm 3) l0_2)
def e0_1 : IE := (.call 4 (.cons (.var 2) .nil))
def q0_1 : IE := (.lc1 false [("_law_table", 2)] e0_1 (.val (.call 14 .nil)) (.nm 2) .yes)
def b0 : ISs := (.cons (.asg (.nm 1) (.call 1 .nil)) (.cons (.ite (.disj (.cmp .NotEq (.idx (.var 1) (.cst (.int 0))) (.idx (.call 3 .nil) (.cst (.int 0)))) (.disj (.cmp .NotEq (.blt .list (.cons (.idx (.var 1) (.cst (.int 1))) .nil)) (.blt .list (.cons (.idx (.call 3 .nil) (.cst (.int 1))) .nil))) (.cmp .NotEq (.idx (.var 1) (.cst (.int 2))) (.idx (.call 3 .nil) (.cst (.int 2)))))) (.cons (.ret true (.cst (.bl false))) .nil) .nil) (.cons (.ite (.disj (.cmp .IsNot (.callk 4 ["modes"] [0] .nil (.cons (.var 1) .nil)) (.cst (.bl true))) (.cmp .NotEq q0_1 (.lst false (.cons (.cst (.bl false)) (.cons (.cst (.bl false)) .nil))))) (.cons (.ret true (.cst (.bl false))) .nil) .nil) (.cons s0_2 (.cons (.ret true (.cst (.bl true))) .nil)))))
def f0 : FT := ⟨"law", ["_law_script"], ["_law_script", "_law_usual_here", "_law_table", "_law_cell", "_law_source_here", "_law_turn", "_law_few", "_law_k", "_law_kept"], top 40, ⟨1, 9, b0, false⟩⟩
/-- standard -/
def e1_0 : IE := (.tup (.cons (.var 6) (.cons (.var 7) (.cons (.call 2 (.cons (.var 6) (.cons (.var 7) .nil))) .nil))))
def q1_0 : IE := (.lc1 false [("one", 6), ("other", 7)] e1_0 (.val (.var 4)) (.tp [(.nm 6), (.nm 7)]) .yes)
def e1_1 : IE := (.tup (.cons (.var 6) (.cons (.var 7) .nil)))
def q1_1 : IE := (.lc2 false [("place", 5), ("one", 6), ("other", 7)] [7] e1_1 (.enm (.var 0)) (.tp [(.nm 5), (.nm 6)]) .yes (.val (.slc (.var 0) (.some (.bin .Add (.var 5) (.cst (.int 1)))) .none)) (.nm 7) .yes)
def e1_2 : IE := (.tup (.cons (.var 2) (.cons (.var 3) .nil)))
def q1_2 : IE := (.lc2 false [("held", 2), ("asked", 3)] [3] e1_2 (.val (.var 0)) (.nm 2) .yes (.val (.gidx 0 (.var 2))) (.nm 3) .yes)
def b1 : ISs := (.cons (.asg (.nm 0) (.glb 0)) (.cons (.asg (.nm 1) q1_2) (.cons (.asg (.nm 4) q1_1) (.cons (.ret true (.tup (.cons (.var 0) (.cons (.blt .tuple (.cons (.var 1) .nil)) (.cons (.blt .tuple (.cons q1_0 .nil)) .nil))))) .nil))))
def f1 : FT := ⟨"standard", [], ["names", "allowed", "held", "asked", "rows", "place", "one", "other"], top 23, ⟨0, 8, b1, true⟩⟩
/-- standard_join -/
def b2 : ISs := (.cons (.ite (.disj (.cmp .Eq (.var 0) (.var 1)) (.cmp .In (.cst (.str "x")) (.tup (.cons (.var 0) (.cons (.var 1) .nil))))) (.cons (.ret true (.ifx (.cmp .Eq (.var 0) (.var 1)) (.var 0) (.cst (.str "x")))) .nil) .nil) (.cons (.ite (.cmp .In (.var 0) (.gidx 1 (.var 1))) (.cons (.ret true (.var 1)) .nil) .nil) (.cons (.ite (.cmp .In (.var 1) (.gidx 1 (.var 0))) (.cons (.ret true (.var 0)) .nil) .nil) (.cons (.ret true (.cst (.str "six"))) .nil))))
def f2 : FT := ⟨"standard_join", ["one", "other"], ["one", "other"], top 22, ⟨2, 2, b2, true⟩⟩
/-- _law_usual -/
def b3 : ISs := (.cons (.asg (.nm 0) (.tup (.cons (.cst (.str "is")) (.cons (.cst (.str "ix")) (.cons (.cst (.str "s")) (.cons (.cst (.str "u")) (.cons (.cst (.str "six")) (.cons (.cst (.str "x")) .nil)))))))) (.cons (.asg (.nm 1) (.tup (.cons (.tup (.cons (.cst (.str "is")) (.cons (.cst (.str "is")) .nil))) (.cons (.tup (.cons (.cst (.str "is")) (.cons (.cst (.str "ix")) .nil))) (.cons (.tup (.cons (.cst (.str "is")) (.cons (.cst (.str "s")) .nil))) (.cons (.tup (.cons (.cst (.str "is")) (.cons (.cst (.str "u")) .nil))) (.cons (.tup (.cons (.cst (.str "is")) (.cons (.cst (.str "six")) .nil))) (.cons (.tup (.cons (.cst (.str "ix")) (.cons (.cst (.str "is")) .nil))) (.cons (.tup (.cons (.cst (.str "ix")) (.cons (.cst (.str "ix")) .nil))) .nil))))))))) (.cons (.asg (.nm 1) (.bin .Add (.var 1) (.tup (.cons (.tup (.cons (.cst (.str "s")) (.cons (.cst (.str "is")) .nil))) (.cons (.tup (.cons (.cst (.str "s")) (.cons (.cst (.str "s")) .nil))) (.cons (.tup (.cons (.cst (.str "s")) (.cons (.cst (.str "u")) .nil))) (.cons (.tup (.cons (.cst (.str "u")) (.cons (.cst (.str "is")) .nil))) (.cons (.tup (.cons (.cst (.str "u")) (.cons (.cst (.str "s")) .nil))) (.cons (.tup (.cons (.cst (.str "six")) (.cons (.cst (.str "is")) .nil))) .nil))))))))) (.cons (.asg (.nm 2) (.tup (.cons (.tup (.cons (.cst (.str "is")) (.cons (.cst (.str "ix")) (.cons (.cst (.str "ix")) .nil)))) (.cons (.tup (.cons (.cst (.str "is")) (.cons (.cst (.str "s")) (.cons (.cst (.str "s")) .nil)))) (.cons (.tup (.cons (.cst (.str "is")) (.cons (.cst (.str "u")) (.cons (.cst (.str "u")) .nil)))) (.cons (.tup (.cons (.cst (.str "is")) (.cons (.cst (.str "six")) (.cons (.cst (.str "six")) .nil)))) (.cons (.tup (.cons (.cst (.str "is")) (.cons (.cst (.str "x")) (.cons (.cst (.str "x")) .nil)))) .nil))))))) (.cons (.asg (.nm 2) (.bin .Add (.var 2) (.tup (.cons (.tup (.cons (.cst (.str "ix")) (.cons (.cst (.str "s")) (.cons (.cst (.str "six")) .nil)))) (.cons (.tup (.cons (.cst (.str "ix")) (.cons (.cst (.str "u")) (.cons (.cst (.str "six")) .nil)))) (.cons (.tup (.cons (.cst (.str "ix")) (.cons (.cst (.str "six")) (.cons (.cst (.str "six")) .nil)))) (.cons (.tup (.cons (.cst (.str "ix")) (.cons (.cst (.str "x")) (.cons (.cst (.str "x")) .nil)))) (.cons (.tup (.cons (.cst (.str "s")) (.cons (.cst (.str "u")) (.cons (.cst (.str "u")) .nil)))) .nil)))))))) (.cons (.asg (.nm 2) (.bin .Add (.var 2) (.tup (.cons (.tup (.cons (.cst (.str "s")) (.cons (.cst (.str "six")) (.cons (.cst (.str "six")) .nil)))) (.cons (.tup (.cons (.cst (.str "s")) (.cons (.cst (.str "x")) (.cons (.cst (.str "x")) .nil)))) (.cons (.tup (.cons (.cst (.str "u")) (.cons (.cst (.str "six")) (.cons (.cst (.str "six")) .nil)))) (.cons (.tup (.cons (.cst (.str "u")) (.cons (.cst (.str "x")) (.cons (.cst (.str "x")) .nil)))) (.cons (.tup (.cons (.cst (.str "six")) (.cons (.cst (.str "x")) (.cons (.cst (.str "x")) .nil)))) .nil)))))))) (.cons (.ret true (.tup (.cons (.var 0) (.cons (.var 1) (.cons (.var 2) .nil))))) .nil)))))))
def f3 : FT := ⟨"_law_usual", [], ["_law_names", "_law_few", "_law_rows"], top 34, ⟨0, 3, b3, true⟩⟩
/-- is_symmetric -/
def e4_0 : IE := (.cmp .In (.tup (.cons (.var 2) (.cons (.var 1) .nil))) (.idx (.var 0) (.cst (.int 1))))
def q4_0 : IE := (.lc1 false [("held", 1), ("asked", 2)] e4_0 (.val (.idx (.var 0) (.cst (.int 1)))) (.tp [(.nm 1), (.nm 2)]) .yes)
def b4 : ISs := (.cons (.expr (.call 5 (.cons (.var 0) .nil))) (.cons (.ret true (.blt .all (.cons q4_0 .nil))) .nil))
def f4 : FT := ⟨"is_symmetric", ["modes"], ["modes", "held", "asked"], top 25, ⟨1, 3, b4, true⟩⟩
/-- require_modes -/
def b5 : ISs := (.cons (.asg (.nm 1) (.call 6 (.cons (.var 0) .nil))) (.cons (.ite (.cmp .IsNot (.var 1) (.cst .non)) (.cons .never .nil) .nil) .nil))
def f5 : FT := ⟨"require_modes", ["modes"], ["modes", "part"], top 21, ⟨1, 2, b5, true⟩⟩
/-- fault_of_modes -/
def b6 : ISs := (.cons (.ite (.disj (.neg (.tru (.blt (.isi ["tuple"]) (.cons (.var 0) .nil)))) (.cmp .NotEq (.blt .len (.cons (.var 0) .nil)) (.cst (.int 3)))) (.cons (.ret true (.cst (.str "form"))) .nil) .nil) (.cons (.ite (.disj (.neg (.tru (.call 7 (.cons (.idx (.var 0) (.cst (.int 0))) (.cons (.glb 1) .nil))))) (.cmp .Eq (.idx (.var 0) (.cst (.int 0))) (.tup .nil))) (.cons (.ret true (.cst (.str "names"))) .nil) .nil) (.cons (.ite (.neg (.tru (.call 9 (.cons (.idx (.var 0) (.cst (.int 0))) (.cons (.idx (.var 0) (.cst (.int 1))) .nil))))) (.cons (.ret true (.cst (.str "allowed"))) .nil) .nil) (.cons (.ite (.neg (.tru (.call 11 (.cons (.idx (.var 0) (.cst (.int 0))) (.cons (.idx (.var 0) (.cst (.int 2))) .nil))))) (.cons (.ret true (.cst (.str "joins"))) .nil) .nil) (.cons (.ret true (.ifx (.tru (.call 12 (.cons (.var 0) .nil))) (.cst .non) (.cst (.str "exact")))) .nil)))))
def f6 : FT := ⟨"fault_of_modes", ["modes"], ["modes"], top 20, ⟨1, 1, b6, true⟩⟩
/-- are_names -/
def e7_0 : IE := (.call 8 (.cons (.var 2) .nil))
def q7_0 : IE := (.lc1 false [("name", 2)] e7_0 (.val (.var 0)) (.nm 2) .yes)
def b7 : ISs := (.cons (.ite (.disj (.neg (.tru (.blt (.isi ["tuple"]) (.cons (.var 0) .nil)))) (.disj (.cmp .Gt (.blt .len (.cons (.var 0) .nil)) (.var 1)) (.neg (.tru (.blt .all (.cons q7_0 .nil)))))) (.cons (.ret true (.cst (.bl false))) .nil) .nil) (.cons (.ret true (.cmp .Eq (.blt .lenset (.cons (.var 0) .nil)) (.blt .len (.cons (.var 0) .nil)))) .nil))
def f7 : FT := ⟨"are_names", ["value", "most"], ["value", "most", "name"], top 12, ⟨2, 3, b7, true⟩⟩
/-- is_name -/
def e8_0 : IE := (.cmp .In (.var 1) (.glb 2))
def q8_0 : IE := (.lc1 false [("letter", 1)] e8_0 (.val (.var 0)) (.nm 1) .yes)
def b8 : ISs := (.cons (.ite (.disj (.neg (.tru (.blt (.isi ["str"]) (.cons (.var 0) .nil)))) (.neg (.chn .LtE .LtE (.cst (.int 1)) (.blt .len (.cons (.var 0) .nil)) (.glb 3)))) (.cons (.ret true (.cst (.bl false))) .nil) .nil) (.cons (.ret true (.blt .all (.cons q8_0 .nil))) .nil))
def f8 : FT := ⟨"is_name", ["value"], ["value", "letter"], top 11, ⟨1, 2, b8, true⟩⟩
/-- are_allowed -/
def e9_0 : IE := (.call 10 (.cons (.var 2) (.cons (.cst (.int 2)) (.cons (.var 0) .nil))))
def q9_0 : IE := (.lc1 false [("pair", 2)] e9_0 (.val (.var 1)) (.nm 2) .yes)
def b9 : ISs := (.cons (.ite (.disj (.neg (.tru (.blt (.isi ["tuple"]) (.cons (.var 1) .nil)))) (.neg (.tru (.blt .all (.cons q9_0 .nil))))) (.cons (.ret true (.cst (.bl false))) .nil) .nil) (.cons (.ret true (.cmp .Eq (.blt .lenset (.cons (.var 1) .nil)) (.blt .len (.cons (.var 1) .nil)))) .nil))
def f9 : FT := ⟨"are_allowed", ["names", "value"], ["names", "value", "pair"], top 14, ⟨2, 3, b9, true⟩⟩
/-- is_row_of -/
def e10_0 : IE := (.andV (.blt (.isi ["str"]) (.cons (.var 3) .nil)) (.cmp .In (.var 3) (.var 2)))
def q10_0 : IE := (.lc1 false [("part", 3)] e10_0 (.val (.var 0)) (.nm 3) .yes)
def b10 : ISs := (.cons (.ite (.disj (.neg (.tru (.blt (.isi ["tuple"]) (.cons (.var 0) .nil)))) (.cmp .NotEq (.blt .len (.cons (.var 0) .nil)) (.var 1))) (.cons (.ret true (.cst (.bl false))) .nil) .nil) (.cons (.ret true (.blt .all (.cons q10_0 .nil))) .nil))
def f10 : FT := ⟨"is_row_of", ["value", "size", "names"], ["value", "size", "names", "part"], top 13, ⟨3, 4, b10, true⟩⟩
/-- are_joins -/
def e11_0 : IE := (.tup (.cons (.var 6) (.cons (.var 7) .nil)))
def q11_0 : IE := (.lc2 false [("place", 5), ("one", 6), ("other", 7)] [7] e11_0 (.enm (.var 0)) (.tp [(.nm 5), (.nm 6)]) .yes (.val (.slc (.var 0) (.some (.bin .Add (.var 5) (.cst (.int 1)))) .none)) (.nm 7) .yes)
def e11_1 : IE := (.slc (.var 2) .none (.some (.cst (.int 2))))
def q11_1 : IE := (.lc1 false [("row", 2)] e11_1 (.val (.var 1)) (.nm 2) .yes)
def e11_2 : IE := (.call 10 (.cons (.var 2) (.cons (.cst (.int 3)) (.cons (.var 0) .nil))))
def q11_2 : IE := (.lc1 false [("row", 2)] e11_2 (.val (.var 1)) (.nm 2) .yes)
def b11 : ISs := (.cons (.ite (.disj (.neg (.tru (.blt (.isi ["tuple"]) (.cons (.var 1) .nil)))) (.neg (.tru (.blt .all (.cons q11_2 .nil))))) (.cons (.ret true (.cst (.bl false))) .nil) .nil) (.cons (.asg (.nm 3) q11_1) (.cons (.asg (.nm 4) q11_0) (.cons (.ret true (.cmp .Eq (.blt .sorted (.cons (.var 3) .nil)) (.blt .sorted (.cons (.var 4) .nil)))) .nil))))
def f11 : FT := ⟨"are_joins", ["names", "value"], ["names", "value", "row", "pairs", "due", "place", "one", "other"], top 15, ⟨2, 8, b11, true⟩⟩
/-- is_exact -/
def l12_0 : ISs := (.cons (.ite (.cmp .NotEq (.cmp .In (.tup (.cons (.var 7) (.cons (.var 8) .nil))) (.var 2)) (.andV (.cmp .In (.tup (.cons (.var 5) (.cons (.var 8) .nil))) (.var 2)) (.cmp .In (.tup (.cons (.var 6) (.cons (.var 8) .nil))) (.var 2)))) (.cons (.ret true (.cst (.bl false))) .nil) .nil) (.cons (.ite (.cmp .NotEq (.cmp .In (.tup (.cons (.var 8) (.cons (.var 7) .nil))) (.var 2)) (.andV (.cmp .In (.tup (.cons (.var 8) (.cons (.var 5) .nil))) (.var 2)) (.cmp .In (.tup (.cons (.var 8) (.cons (.var 6) .nil))) (.var 2)))) (.cons (.ret true (.cst (.bl false))) .nil) .nil) (.cons (.ite (.cmp .NotEq (.idx (.var 3) (.tup (.cons (.var 7) (.cons (.var 8) .nil)))) (.idx (.var 3) (.tup (.cons (.var 5) (.cons (.idx (.var 3) (.tup (.cons (.var 6) (.cons (.var 8) .nil)))) .nil))))) (.cons (.ret true (.cst (.bl false))) .nil) .nil) .nil)))
def s12_0 : IS := (.for_ (.val (.var 1)) (.nm 8) l12_0)
def l12_1 : ISs := (.cons (.asg (.nm 7) (.idx (.var 3) (.tup (.cons (.var 5) (.cons (.var 6) .nil))))) (.cons s12_0 .nil))
def s12_1 : IS := (.for_ (.val (.var 3)) (.tp [(.nm 5), (.nm 6)]) l12_1)
def e12_0 : IE := (.var 4)
def e12_1 : IE := (.cst (.bl true))
def q12_0 : IE := (.dc1 true false [("pair", 4)] e12_0 e12_1 (.val (.idx (.var 0) (.cst (.int 1)))) (.nm 4) .yes)
def b12 : ISs := (.cons (.par [1, 2, 3] (.cons (.idx (.var 0) (.cst (.int 0))) (.cons q12_0 (.cons (.call 13 (.cons (.var 0) .nil)) .nil)))) (.cons s12_1 (.cons (.ret true (.cst (.bl true))) .nil)))
def f12 : FT := ⟨"is_exact", ["modes"], ["modes", "names", "allowed", "joins", "pair", "one", "other", "both", "third"], top 19, ⟨1, 9, b12, true⟩⟩
/-- all_joins -/
def l13_0 : ISs := (.cons (.seti (.var 1) (.tup (.cons (.var 2) (.cons (.var 3) .nil))) (.var 4)) (.cons (.seti (.var 1) (.tup (.cons (.var 3) (.cons (.var 2) .nil))) (.var 4)) .nil))
def s13_0 : IS := (.for_ (.val (.idx (.var 0) (.cst (.int 2)))) (.tp [(.nm 2), (.nm 3), (.nm 4)]) l13_0)
def e13_0 : IE := (.tup (.cons (.var 2) (.cons (.var 2) .nil)))
def e13_1 : IE := (.var 2)
def q13_0 : IE := (.dc1 true true [("one", 2)] e13_0 e13_1 (.val (.idx (.var 0) (.cst (.int 0)))) (.nm 2) .yes)
def b13 : ISs := (.cons (.asg (.nm 1) q13_0) (.cons s13_0 (.cons (.ret true (.var 1)) .nil)))
def f13 : FT := ⟨"all_joins", ["modes"], ["modes", "found", "one", "other", "both"], top 18, ⟨1, 5, b13, true⟩⟩
/-- _law_skew -/
def b14 : ISs := (.cons (.asg (.nm 0) (.tup (.cons (.tup (.cons (.cst (.str "s")) (.cons (.cst (.str "u")) (.cons (.cst (.str "u")) .nil)))) (.cons (.tup (.cons (.cst (.str "s")) (.cons (.cst (.str "x")) (.cons (.cst (.str "x")) .nil)))) (.cons (.tup (.cons (.cst (.str "u")) (.cons (.cst (.str "x")) (.cons (.cst (.str "x")) .nil)))) .nil))))) (.cons (.asg (.nm 1) (.tup (.cons (.tup (.cons (.cst (.str "s")) (.cons (.cst (.str "u")) (.cons (.cst (.str "x")) .nil)))) (.cons (.tup (.cons (.tup (.cons (.cst (.str "s")) (.cons (.cst (.str "s")) .nil))) (.cons (.tup (.cons (.cst (.str "s")) (.cons (.cst (.str "u")) .nil))) .nil))) (.cons (.var 0) .nil))))) (.cons (.asg (.nm 2) (.tup (.cons (.tup (.cons (.cst (.str "gap")) (.cons (.cst (.str "gap")) .nil))) (.cons (.tup (.cons (.cst (.str "put")) (.cons (.cst (.str "gap")) .nil))) (.cons (.tup (.cons (.cst (.str "put")) (.cons (.cst (.str "put")) .nil))) (.cons (.tup (.cons (.cst (.str "put")) (.cons (.cst (.str "all")) .nil))) (.cons (.tup (.cons (.cst (.str "all")) (.cons (.cst (.str "gap")) .nil))) .nil))))))) (.cons (.asg (.nm 0) (.tup (.cons (.tup (.cons (.cst (.str "gap")) (.cons (.cst (.str "put")) (.cons (.cst (.str "all")) .nil)))) (.cons (.tup (.cons (.cst (.str "gap")) (.cons (.cst (.str "all")) (.cons (.cst (.str "all")) .nil)))) (.cons (.tup (.cons (.cst (.str "put")) (.cons (.cst (.str "all")) (.cons (.cst (.str "all")) .nil)))) .nil))))) (.cons (.ret true (.lst false (.cons (.var 1) (.cons (.tup (.cons (.tup (.cons (.cst (.str "gap")) (.cons (.cst (.str "put")) (.cons (.cst (.str "all")) .nil)))) (.cons (.var 2) (.cons (.var 0) .nil)))) .nil)))) .nil)))))
def f14 : FT := ⟨"_law_skew", [], ["_law_rows", "_law_first", "_law_few"], top 36, ⟨0, 3, b14, true⟩⟩
/-- _law_source -/
def b15 : ISs := (.cons (.ite (.cmp .GtE (.blt .absI (.cons (.var 0) .nil)) (.bin .Pow (.cst (.int 10)) (.cst (.int 18)))) (.cons (.ret false (.lst true (.cons (.blt .absI (.cons (.var 0) .nil)) (.cons (.blt .absI (.cons (.var 0) .nil)) (.cons (.cst (.int 0)) .nil))))) .nil) .nil) (.cons (.ret false (.lst true (.cons (.cst (.int 0)) (.cons (.blt .absI (.cons (.var 0) .nil)) (.cons (.cst (.int 0)) .nil))))) .nil))
def f15 : FT := ⟨"_law_source", ["_law_cell"], ["_law_cell"], top 31, ⟨1, 1, b15, false⟩⟩
/-- _law_tables -/
def b16 : ISs := (.cons (.asg (.nm 0) (.tup (.cons (.tup (.cons (.cst (.str "s")) (.cons (.cst (.str "x")) .nil))) (.cons (.tup (.cons (.tup (.cons (.cst (.str "s")) (.cons (.cst (.str "s")) .nil))) .nil)) (.cons (.tup (.cons (.tup (.cons (.cst (.str "s")) (.cons (.cst (.str "x")) (.cons (.cst (.str "x")) .nil)))) .nil)) .nil))))) (.cons (.asg (.nm 1) (.tup (.cons (.tup (.cons (.cst (.str "s")) (.cons (.cst (.str "u")) (.cons (.cst (.str "u")) .nil)))) (.cons (.tup (.cons (.cst (.str "s")) (.cons (.cst (.str "x")) (.cons (.cst (.str "x")) .nil)))) (.cons (.tup (.cons (.cst (.str "u")) (.cons (.cst (.str "x")) (.cons (.cst (.str "x")) .nil)))) .nil))))) (.cons (.asg (.nm 2) (.tup (.cons (.tup (.cons (.cst (.str "s")) (.cons (.cst (.str "u")) (.cons (.cst (.str "x")) .nil)))) (.cons (.tup (.cons (.tup (.cons (.cst (.str "s")) (.cons (.cst (.str "s")) .nil))) (.cons (.tup (.cons (.cst (.str "s")) (.cons (.cst (.str "u")) .nil))) (.cons (.tup (.cons (.cst (.str "u")) (.cons (.cst (.str "s")) .nil))) .nil)))) (.cons (.var 1) .nil))))) (.cons (.asg (.nm 1) (.tup (.cons (.tup (.cons (.cst (.str "red")) (.cons (.cst (.str "blue")) (.cons (.cst (.str "all")) .nil)))) (.cons (.tup (.cons (.cst (.str "red")) (.cons (.cst (.str "all")) (.cons (.cst (.str "all")) .nil)))) (.cons (.tup (.cons (.cst (.str "blue")) (.cons (.cst (.str "all")) (.cons (.cst (.str "all")) .nil)))) .nil))))) (.cons (.asg (.nm 3) (.tup (.cons (.tup (.cons (.cst (.str "red")) (.cons (.cst (.str "blue")) (.cons (.cst (.str "all")) .nil)))) (.cons (.tup (.cons (.tup (.cons (.cst (.str "red")) (.cons (.cst (.str "red")) .nil))) (.cons (.tup (.cons (.cst (.str "blue")) (.cons (.cst (.str "blue")) .nil))) .nil))) (.cons (.var 1) .nil))))) (.cons (.ret true (.lst false (.cons (.var 0) (.cons (.var 2) (.cons (.var 3) (.cons (.call 3 .nil) (.cons (.var 0) .nil))))))) .nil))))))
def f16 : FT := ⟨"_law_tables", [], ["_law_plain", "_law_rows", "_law_later", "_law_guests"], top 35, ⟨0, 4, b16, true⟩⟩
/-- _law_pick -/
def b17 : ISs := (.cons (.ret true (.idx (.var 1) (.call 18 (.cons (.var 0) (.cons (.blt .len (.cons (.var 1) .nil)) .nil))))) .nil)
def f17 : FT := ⟨"_law_pick", ["_law_source_here", "_law_few"], ["_law_source_here", "_law_few"], top 33, ⟨2, 2, b17, false⟩⟩
/-- _law_take -/
def b18 : ISs := (.cons (.ite (.cmp .Gt (.idx (.var 0) (.cst (.int 0))) (.cst (.int 0))) (.cons (.asg (.nm 2) (.bin .Mod (.blt .intI (.cons (.idx (.var 0) (.cst (.int 0))) .nil)) (.var 1))) (.cons (.seti (.var 0) (.cst (.int 0)) (.bin .FloorDiv (.idx (.var 0) (.cst (.int 0))) (.var 1))) (.cons (.ret true (.var 2)) .nil))) .nil) (.cons (.seti (.var 0) (.cst (.int 2)) (.bin .Add (.idx (.var 0) (.cst (.int 2))) (.cst (.int 1)))) (.cons (.ret true (.bin .Mod (.blt .intI (.cons (.call 19 (.cons (.idx (.var 0) (.cst (.int 1))) (.cons (.idx (.var 0) (.cst (.int 2))) .nil))) .nil)) (.var 1))) .nil)))
def f18 : FT := ⟨"_law_take", ["_law_source_here", "_law_bound"], ["_law_source_here", "_law_bound", "_law_drawn"], top 32, ⟨2, 3, b18, false⟩⟩
/-- _law_mixed -/
def b19 : ISs := (.cons (.asg (.nm 2) (.bin .Mod (.blt .intI (.cons (.bin .Mult (.bin .Add (.bin .Mod (.blt .intI (.cons (.var 0) .nil)) (.cst (.int 2147483646))) (.cst (.int 1))) (.bin .Add (.bin .Mult (.var 1) (.cst (.int 7919))) (.cst (.int 104729)))) .nil)) (.cst (.int 2147483647)))) (.cons (.asg (.nm 2) (.bin .Mod (.blt .intI (.cons (.bin .Mult (.bin .Add (.var 2) (.bin .Mult (.bin .Mod (.blt .intI (.cons (.bin .FloorDiv (.var 0) (.cst (.int 2147483646))) .nil)) (.cst (.int 1000003))) (.bin .Add (.var 1) (.cst (.int 31))))) (.cst (.int 48271))) .nil)) (.cst (.int 2147483629)))) (.cons (.asg (.nm 2) (.bin .Mod (.blt .intI (.cons (.bin .Mult (.var 2) (.bin .Add (.bin .Add (.bin .FloorDiv (.var 2) (.cst (.int 1013))) (.cst (.int 69621))) (.var 1))) .nil)) (.cst (.int 2147483587)))) (.cons (.ret true (.bin .Mod (.blt .intI (.cons (.bin .Mult (.var 2) (.bin .Add (.bin .FloorDiv (.var 2) (.cst (.int 2003))) (.cst (.int 40692)))) .nil)) (.cst (.int 2147483563)))) .nil))))
def f19 : FT := ⟨"_law_mixed", ["_law_cell", "_law_draw"], ["_law_cell", "_law_draw", "_law_figure"], top 30, ⟨2, 3, b19, true⟩⟩
/-- joined -/
def l20_0 : ISs := (.cons (.asg (.nm 2) (.call 23 (.cons (.var 0) (.cons (.var 2) (.cons (.var 3) .nil))))) .nil)
def s20_0 : IS := (.for_ (.val (.var 1)) (.nm 3) l20_0)
def b20 : ISs := (.cons (.expr (.call 21 (.cons (.var 0) (.cons (.var 1) .nil)))) (.cons (.asg (.nm 2) (.cst .non)) (.cons s20_0 (.cons (.ret true (.var 2)) .nil))))
def f20 : FT := ⟨"joined", ["modes", "some"], ["modes", "some", "found", "mode"], top 27, ⟨2, 4, b20, true⟩⟩
/-- require_some -/
def l21_0 : ISs := (.cons (.expr (.call 22 (.cons (.var 0) (.cons (.var 2) .nil)))) .nil)
def s21_0 : IS := (.for_ (.val (.var 1)) (.nm 2) l21_0)
def b21 : ISs := (.cons (.expr (.call 5 (.cons (.var 0) .nil))) (.cons (.ite (.neg (.tru (.blt (.isi ["list", "tuple"]) (.cons (.var 1) .nil)))) (.cons .never .nil) .nil) (.cons s21_0 .nil)))
def f21 : FT := ⟨"require_some", ["modes", "some"], ["modes", "some", "mode"], top 26, ⟨2, 3, b21, true⟩⟩
/-- require_mode -/
def b22 : ISs := (.cons (.ite (.disj (.neg (.tru (.blt (.isi ["str"]) (.cons (.var 1) .nil)))) (.cmp .NotIn (.var 1) (.idx (.var 0) (.cst (.int 0))))) (.cons .never .nil) .nil) .nil)
def f22 : FT := ⟨"require_mode", ["modes", "mode"], ["modes", "mode"], top 24, ⟨2, 2, b22, true⟩⟩
/-- join -/
def e23_0 : IE := (.idx (.var 3) (.cst (.int 2)))
def c23_0 : IT := (.conj (.cmp .In (.idx (.var 3) (.cst (.int 0))) (.tup (.cons (.var 1) (.cons (.var 2) .nil)))) (.cmp .In (.idx (.var 3) (.cst (.int 1))) (.tup (.cons (.var 1) (.cons (.var 2) .nil)))))
def q23_0 : IE := (.lc1 false [("row", 3)] e23_0 (.val (.idx (.var 0) (.cst (.int 2)))) (.nm 3) c23_0)
def b23 : ISs := (.cons (.ite (.disj (.cmp .Is (.var 1) (.cst .non)) (.cmp .Eq (.var 1) (.var 2))) (.cons (.ret true (.var 2)) .nil) .nil) (.cons (.ite (.cmp .Is (.var 2) (.cst .non)) (.cons (.ret true (.var 1)) .nil) .nil) (.cons (.ret true (.idx q23_0 (.cst (.int 0)))) .nil)))
def f23 : FT := ⟨"join", ["modes", "one", "other"], ["modes", "one", "other", "row"], top 16, ⟨3, 4, b23, true⟩⟩
/-- _law_joined -/
def l24_0 : ISs := (.cons (.asg (.nm 2) (.ifx (.cmp .Is (.var 2) (.cst .non)) (.var 3) (.call 25 (.cons (.var 0) (.cons (.var 2) (.cons (.var 3) .nil)))))) .nil)
def s24_0 : IS := (.for_ (.val (.var 1)) (.nm 3) l24_0)
def b24 : ISs := (.cons (.asg (.nm 2) (.cst .non)) (.cons s24_0 (.cons (.ret true (.var 2)) .nil)))
def f24 : FT := ⟨"_law_joined", ["_law_table", "_law_few"], ["_law_table", "_law_few", "_law_found", "_law_one"], top 38, ⟨2, 4, b24, true⟩⟩
/-- _law_join -/
def l25_0 : ISs := (.cons (.ite (.conj (.cmp .NotEq (.var 1) (.var 2)) (.conj (.cmp .In (.idx (.var 3) (.cst (.int 0))) (.tup (.cons (.var 1) (.cons (.var 2) .nil)))) (.cmp .In (.idx (.var 3) (.cst (.int 1))) (.tup (.cons (.var 1) (.cons (.var 2) .nil)))))) (.cons (.ret true (.idx (.var 3) (.cst (.int 2)))) .nil) .nil) .nil)
def s25_0 : IS := (.for_ (.val (.idx (.var 0) (.cst (.int 2)))) (.nm 3) l25_0)
def b25 : ISs := (.cons s25_0 (.cons (.ret true (.var 1)) .nil))
def f25 : FT := ⟨"_law_join", ["_law_table", "_law_one", "_law_other"], ["_law_table", "_law_one", "_law_other", "_law_row"], top 37, ⟨3, 4, b25, true⟩⟩
/-- may_stand -/
def l26_0 : ISs := (.cons (.ite (.neg (.tru (.call 27 (.cons (.var 0) (.cons (.var 2) (.cons (.var 3) .nil)))))) (.cons (.ret true (.cst (.bl false))) .nil) .nil) (.cons (.asg (.nm 2) (.call 23 (.cons (.var 0) (.cons (.var 2) (.cons (.var 3) .nil))))) .nil))
def s26_0 : IS := (.for_ (.val (.var 1)) (.nm 3) l26_0)
def b26 : ISs := (.cons (.expr (.call 21 (.cons (.var 0) (.cons (.var 1) .nil)))) (.cons (.asg (.nm 2) (.cst .non)) (.cons s26_0 (.cons (.ret true (.cst (.bl true))) .nil))))
def f26 : FT := ⟨"may_stand", ["modes", "some"], ["modes", "some", "held", "mode"], top 28, ⟨2, 4, b26, true⟩⟩
/-- allows -/
def b27 : ISs := (.cons (.ret true (.orV (.cmp .Is (.var 1) (.cst .non)) (.cmp .In (.tup (.cons (.var 1) (.cons (.var 2) .nil))) (.idx (.var 0) (.cst (.int 1)))))) .nil)
def f27 : FT := ⟨"allows", ["modes", "held", "asked"], ["modes", "held", "asked"], top 17, ⟨3, 3, b27, true⟩⟩
/-- _law_stands -/
def e28_0 : IE := (.var 4)
def c28_0 : IT := (.cmp .NotIn (.tup (.cons (.var 4) (.cons (.var 3) .nil))) (.idx (.var 0) (.cst (.int 1))))
def q28_0 : IE := (.lc1 false [("_law_held", 4)] e28_0 (.val (.slc (.var 1) .none (.some (.var 2)))) (.nm 4) c28_0)
def l28_0 : ISs := (.cons (.ite (.cmp .NotEq q28_0 (.lst false .nil)) (.cons (.ret true (.cst (.bl false))) .nil) .nil) .nil)
def s28_0 : IS := (.for_ (.enm (.var 1)) (.tp [(.nm 2), (.nm 3)]) l28_0)
def b28 : ISs := (.cons s28_0 (.cons (.ret true (.cst (.bl true))) .nil))
def f28 : FT := ⟨"_law_stands", ["_law_table", "_law_few"], ["_law_table", "_law_few", "_law_place", "_law_asked", "_law_held"], top 39, ⟨2, 5, b28, true⟩⟩
def tab : Tab := ⟨[f0, f1, f2, f3, f4, f5, f6, f7, f8, f9, f10, f11, f12, f13, f14, f15, f16, f17, f18, f19, f20, f21, f22, f23, f24, f25, f26, f27, f28], [("STANDARD_NAMES", (.gt [(.str "is"), (.str "ix"), (.str "s"), (.str "u"), (.str "six"), (.str "x")])), ("MAX_MODES", (.int 6)), ("LETTERS", (.str "abcdefghijklmnopqrstuvwxyz")), ("MAX_LETTERS", (.int 12))], ["abs", "all", "enumerate", "int", "isinstance", "len", "list", "range", "repr", "set", "sorted", "str", "tuple"],
  [(26, 0, ["some", "modes"], [1, 0]), (20, 0, ["some", "modes"], [1, 0]), (4, 0, ["modes"], [0])], [("STANDARD_TOGETHER", [("is", (.gt [(.str "is"), (.str "ix"), (.str "s"), (.str "u"), (.str "six")])), ("ix", (.gt [(.str "is"), (.str "ix")])), ("s", (.gt [(.str "is"), (.str "s"), (.str "u")])), ("u", (.gt [(.str "is"), (.str "s")])), ("six", (.gt [(.str "is")])), ("x", (.gt []))]), ("STANDARD_ABOVE", [("is", (.gt [])), ("ix", (.gt [(.str "is")])), ("s", (.gt [(.str "is")])), ("u", (.gt [(.str "is"), (.str "s")])), ("six", (.gt [(.str "is"), (.str "ix"), (.str "s"), (.str "u")]))])]⟩

end K02

namespace K02
open PySem PySem.Spec PyProof.Rows L2 VI
def fuel : Nat := 10
theorem mixed_ok (c d : Int) (hd : 0 ≤ d) (hd2 : d ≤ 10 ^ 9) (n : Nat) (h : IH) : ∃ m, 0 ≤ m ∧ tab.run fuel (n + 1) 19 [.int c, .int d] h = .ok (.int m) h := by
  have e : tab.run fuel (n + 1) 19 [.int c, .int d] h = endP h (exSs ⟨tab.run fuel n, tab.gl, tab.gd, fuel⟩ b19 [some (.int c), some (.int d), none] ⟨0, []⟩) := rfl
  have m1 := Int.emod_nonneg c (show (2147483646 : Int) ≠ 0 by decide)
  have m2 := Int.emod_lt_of_pos c (show (0 : Int) < 2147483646 by decide)
  have p1 : (0 : Int) < 2147483647 := by decide
  have p2 : (0 : Int) < 2147483629 := by decide
  have p3 : (0 : Int) < 2147483587 := by decide
  have p4 : (0 : Int) < 2147483563 := by decide
  rw [e]
  simp only [b19, exSs, exS, evE, evEs, bd_ok, int_ok, add_ok, asg_ok, List.getElem?_cons_zero, List.getElem?_cons_succ, mod_ok (show (0 : Int) < 2147483646 by decide)]
  have z1 : 0 ≤ d * 7919 + 104729 := by omega
  have z2 : d * 7919 + 104729 < 2 ^ 50 := by omega
  rw [mul_ok (i := d) (big (by omega) (by omega)) (big (by decide) (by decide))]
  simp only [bd_ok, add_ok]
  rw [mul_ok (big (by omega) (by omega)) (big z1 (by omega))]
  simp only [bd_ok, int_ok, mod_ok p1, List.set_cons_succ, List.set_cons_zero, List.getElem?_cons_zero, List.getElem?_cons_succ, div_ok (show (0 : Int) < 2147483646 by decide) (by decide), mod_ok (show (0 : Int) < 1000003 by decide), add_ok]
  generalize hf1 : (c % 2147483646 + 1) * (d * 7919 + 104729) % 2147483647 = f1
  have a1 : 0 ≤ f1 := by rw [← hf1]; exact Int.emod_nonneg _ (by decide)
  have a2 : f1 < 2147483647 := by rw [← hf1]; exact Int.emod_lt_of_pos _ p1
  generalize hg1 : c / 2147483646 % 1000003 = g1
  have c1 : 0 ≤ g1 := by rw [← hg1]; exact Int.emod_nonneg _ (by decide)
  have c2 : g1 < 1000003 := by rw [← hg1]; exact Int.emod_lt_of_pos _ (by decide)
  rw [mul_ok (i := g1) (j := d + 31) (big c1 (by omega)) (big (by omega) (by omega))]
  simp only [bd_ok, add_ok]
  have y1 : 0 ≤ g1 * (d + 31) := Int.mul_nonneg c1 (by omega)
  have y2 : g1 * (d + 31) ≤ 1000003 * (10 ^ 9 + 31) := Int.mul_le_mul (by omega) (by omega) (by omega) (by decide)
  rw [mul_ok (i := f1 + g1 * (d + 31)) (j := 48271) (big (by omega) (by omega)) (big (by decide) (by decide))]
  simp only [bd_ok, int_ok, mod_ok p2, List.set_cons_succ, List.set_cons_zero, List.getElem?_cons_zero, List.getElem?_cons_succ, div_ok (show (0 : Int) < 1013 by decide) (by decide), add_ok]
  generalize hf2 : (f1 + g1 * (d + 31)) * 48271 % 2147483629 = f2
  have a3 : 0 ≤ f2 := by rw [← hf2]; exact Int.emod_nonneg _ (by decide)
  have a4 : f2 < 2147483629 := by rw [← hf2]; exact Int.emod_lt_of_pos _ p2
  have q1 : 0 ≤ f2 / 1013 := Int.ediv_nonneg a3 (by decide)
  have q2 : f2 / 1013 ≤ f2 := Int.ediv_le_self _ a3
  rw [mul_ok (i := f2) (j := f2 / 1013 + 69621 + d) (big a3 (by omega)) (big (by omega) (by omega))]
  simp only [bd_ok, int_ok, mod_ok p3, List.set_cons_succ, List.set_cons_zero, List.getElem?_cons_zero, List.getElem?_cons_succ, div_ok (show (0 : Int) < 2003 by decide) (by decide), add_ok]
  generalize hf3 : f2 * (f2 / 1013 + 69621 + d) % 2147483587 = f3
  have a5 : 0 ≤ f3 := by rw [← hf3]; exact Int.emod_nonneg _ (by decide)
  have a6 : f3 < 2147483587 := by rw [← hf3]; exact Int.emod_lt_of_pos _ p3
  have q3 : 0 ≤ f3 / 2003 := Int.ediv_nonneg a5 (by decide)
  have q4 : f3 / 2003 ≤ f3 := Int.ediv_le_self _ a5
  rw [mul_ok (i := f3) (j := f3 / 2003 + 40692) (big a5 (by omega)) (big (by omega) (by omega))]
  simp only [bd_ok, int_ok, mod_ok p4]
  exact ⟨_, Int.emod_nonneg _ (by decide), rfl⟩

/-! ### draws -/
def SrcOk (k : Nat) (N : Int) (h : IH) : Prop := ∃ a b c : Int, h.get k = some (.lst [.int a, .int b, .int c]) ∧ 0 ≤ a ∧ 0 ≤ b ∧ 0 ≤ c ∧ c ≤ N
theorem source_ok (c : Int) (n : Nat) (h : IH) : ∃ h', tab.run fuel (n + 1) 15 [.int c] h = .ok (.ref h.n) h' ∧ SrcOk h.n 0 h' := by
  have e : tab.run fuel (n + 1) 15 [.int c] h = endF (exSs ⟨tab.run fuel n, tab.gl, tab.gd, fuel⟩ b15 [some (.int c)] h) := rfl
  have a0 : 0 ≤ (if c < 0 then -c else c) := by split <;> omega
  have pw : binD .Pow (.int 10) (.int 18) h = .ok (.int (10 ^ 18)) h := by rfl
  rw [e]
  simp only [b15, exSs, exS, evE, evEs, evT, bd_ok, List.getElem?_cons_zero, abs_ok, pw, ge_ok, ansT_some]
  by_cases hc : (10 ^ 18 : Int) ≤ (if c < 0 then -c else c)
  · rw [decide_eq_true hc]
    exact ⟨_, rfl, _, _, _, got_push, a0, a0, Int.le_refl _, Int.le_refl _⟩
  · rw [decide_eq_false hc]
    exact ⟨_, rfl, _, _, _, got_push, Int.le_refl _, a0, Int.le_refl _, Int.le_refl _⟩
theorem take_ok {k : Nat} {N b : Int} {h : IH} (S : SrcOk k N h) (hN : N < 10 ^ 9) (hb : 0 < b) (hb2 : b ≤ 10 ^ 6) (n : Nat) : ∃ r h', tab.run fuel (n + 2) 18 [.ref k, .int b] h = .ok (.int r) h' ∧ 0 ≤ r ∧ r < b ∧ SrcOk k (N + 1) h' := by
  obtain ⟨x, y, c, hk, x0, y0, c0, cN⟩ := S
  have e : tab.run fuel (n + 2) 18 [.ref k, .int b] h = endF (exSs ⟨tab.run fuel (n + 1), tab.gl, tab.gd, fuel⟩ b18 [some (.ref k), some (.int b), none] h) := rfl
  have lg : b.natAbs.log2 < 9000 := by
    have : b.natAbs < 2 ^ 20 := by omega
    have := (Nat.log2_lt (by omega : b.natAbs ≠ 0)).mpr this
    omega
  rw [e]
  simp only [b18, exSs, exS, evE, evEs, evT, bd_ok, List.getElem?_cons_zero, List.getElem?_cons_succ, idx_ref hk (show atI [D.int x, D.int y, D.int c] 0 = some (.int x) from rfl), ansD_some, gt_ok, ansT_some]
  by_cases hx : 0 < x
  · rw [decide_eq_true hx]
    simp only [int_ok, mod_ok hb, bd_ok, asg_ok, List.getElem?_cons_zero, List.getElem?_cons_succ, List.set_cons_succ, List.set_cons_zero, idx_ref hk (show atI [D.int x, D.int y, D.int c] 0 = some (.int x) from rfl), ansD_some, div_ok hb lg, set_ref hk (show ixN [D.int x, D.int y, D.int c].length 0 = some 0 from rfl)]
    exact ⟨_, _, rfl, Int.emod_nonneg _ (by omega), Int.emod_lt_of_pos _ hb, _, _, _, got_set hk, Int.ediv_nonneg x0 (by omega), y0, c0, by omega⟩
  · rw [decide_eq_false hx]
    have hk2 : (h.set k (.lst [.int x, .int y, .int (c + 1)])).get k = some (.lst [.int x, .int y, .int (c + 1)]) := got_set hk
    have st : setD (.ref k) (.int 2) (.int (c + 1)) h = .ok () (h.set k (.lst [.int x, .int y, .int (c + 1)])) := set_ref hk (show ixN [D.int x, D.int y, D.int c].length 2 = some 2 from rfl)
    simp only [bd_ok, asg_ok, List.getElem?_cons_zero, List.getElem?_cons_succ, idx_ref hk (show atI [D.int x, D.int y, D.int c] 2 = some (.int c) from rfl), ansD_some, add_ok, st, idx_ref hk2 (show atI [D.int x, D.int y, D.int (c + 1)] 1 = some (.int y) from rfl), idx_ref hk2 (show atI [D.int x, D.int y, D.int (c + 1)] 2 = some (.int (c + 1)) from rfl)]
    obtain ⟨m, m0, em⟩ := mixed_ok y (c + 1) (by omega) (by omega) n (h.set k (.lst [.int x, .int y, .int (c + 1)]))
    rw [em]
    simp only [bd_ok, int_ok, mod_ok hb]
    exact ⟨_, _, rfl, Int.emod_nonneg _ (by omega), Int.emod_lt_of_pos _ hb, _, _, _, hk2, x0, y0, by omega, by omega⟩
/-! ### the tables -/
def t0 : D := .tup [.tup [.str "s", .str "x"], .tup [.tup [.str "s", .str "s"]], .tup [.tup [.str "s", .str "x", .str "x"]]]
def t1 : D := .tup [.tup [.str "s", .str "u", .str "x"], .tup [.tup [.str "s", .str "s"], .tup [.str "s", .str "u"], .tup [.str "u", .str "s"]], .tup [.tup [.str "s", .str "u", .str "u"], .tup [.str "s", .str "x", .str "x"], .tup [.str "u", .str "x", .str "x"]]]
def t2 : D := .tup [.tup [.str "red", .str "blue", .str "all"], .tup [.tup [.str "red", .str "red"], .tup [.str "blue", .str "blue"]], .tup [.tup [.str "red", .str "blue", .str "all"], .tup [.str "red", .str "all", .str "all"], .tup [.str "blue", .str "all", .str "all"]]]
def t3 : D := .tup [.tup [.str "is", .str "ix", .str "s", .str "u", .str "six", .str "x"], .tup [.tup [.str "is", .str "is"], .tup [.str "is", .str "ix"], .tup [.str "is", .str "s"], .tup [.str "is", .str "u"], .tup [.str "is", .str "six"], .tup [.str "ix", .str "is"], .tup [.str "ix", .str "ix"], .tup [.str "s", .str "is"], .tup [.str "s", .str "s"], .tup [.str "s", .str "u"], .tup [.str "u", .str "is"], .tup [.str "u", .str "s"], .tup [.str "six", .str "is"]], .tup [.tup [.str "is", .str "ix", .str "ix"], .tup [.str "is", .str "s", .str "s"], .tup [.str "is", .str "u", .str "u"], .tup [.str "is", .str "six", .str "six"], .tup [.str "is", .str "x", .str "x"], .tup [.str "ix", .str "s", .str "six"], .tup [.str "ix", .str "u", .str "six"], .tup [.str "ix", .str "six", .str "six"], .tup [.str "ix", .str "x", .str "x"], .tup [.str "s", .str "u", .str "u"], .tup [.str "s", .str "six", .str "six"], .tup [.str "s", .str "x", .str "x"], .tup [.str "u", .str "six", .str "six"], .tup [.str "u", .str "x", .str "x"], .tup [.str "six", .str "x", .str "x"]]]
def t4 : D := .tup [.tup [.str "s", .str "u", .str "x"], .tup [.tup [.str "s", .str "s"], .tup [.str "s", .str "u"]], .tup [.tup [.str "s", .str "u", .str "u"], .tup [.str "s", .str "x", .str "x"], .tup [.str "u", .str "x", .str "x"]]]
def t5 : D := .tup [.tup [.str "gap", .str "put", .str "all"], .tup [.tup [.str "gap", .str "gap"], .tup [.str "put", .str "gap"], .tup [.str "put", .str "put"], .tup [.str "put", .str "all"], .tup [.str "all", .str "gap"]], .tup [.tup [.str "gap", .str "put", .str "all"], .tup [.str "gap", .str "all", .str "all"], .tup [.str "put", .str "all", .str "all"]]]
def TT : List D := [t0, t1, t2, t3, t0, t4, t5]
def names : D → List D
  | .tup (.tup ns :: _) => ns
  | _ => []
def alT : D → D
  | .tup (_ :: a :: _) => a
  | _ => .non
def val (r : R D) : D := match r with | .ok d _ => d | .bad => .non
def jn (t a m : D) : D := val (tab.run fuel 1 23 [t, a, m] ⟨0, []⟩)
def al (t a m : D) : Bool := (isIn (.tup [a, m]) (alT t) ⟨0, []⟩).getD false
theorem tables_ok (n : Nat) (h : IH) : tab.run fuel (n + 2) 16 [] h = .ok (.lst [t0, t1, t2, t3, t0]) h := by kernel_rfl
theorem skew_ok (n : Nat) (h : IH) : tab.run fuel (n + 1) 14 [] h = .ok (.lst [t4, t5]) h := by kernel_rfl
theorem usual_ok (n : Nat) (h : IH) : tab.run fuel (n + 1) 3 [] h = .ok t3 h := by kernel_rfl
def t3' : D := val (tab.run fuel 2 1 [] ⟨0, []⟩)
theorem std_ok (n : Nat) (h : IH) : tab.run fuel (n + 2) 1 [] h = .ok t3' h := by kernel_rfl
theorem sym0 (n : Nat) (h : IH) : tab.run fuel (n + 5) 4 [t3'] h = .ok (.bl true) h := by kernel_rfl
theorem sym1 (n : Nat) (h : IH) : tab.run fuel (n + 5) 4 [t4] h = .ok (.bl false) h := by kernel_rfl
theorem sym2 (n : Nat) (h : IH) : tab.run fuel (n + 5) 4 [t5] h = .ok (.bl false) h := by kernel_rfl
theorem req_ok : ∀ t ∈ TT, ∀ n h, tab.run fuel (n + 4) 5 [t] h = .ok .non h := by
  unfold TT
  repeat' (first | exact List.forall_mem_nil _ | refine List.forall_mem_cons.mpr ⟨?_, ?_⟩ | (intro n h; kernel_rfl))
theorem reqm_ok : ∀ t ∈ TT, ∀ m ∈ names t, ∀ n h, tab.run fuel (n + 1) 22 [t, m] h = .ok .non h := by
  unfold TT
  repeat' (first | exact List.forall_mem_nil _ | refine List.forall_mem_cons.mpr ⟨?_, ?_⟩ | (intro n h; kernel_rfl))
theorem join_ok : ∀ t ∈ TT, ∀ a ∈ .non :: names t, ∀ m ∈ names t, ∀ n h, tab.run fuel (n + 1) 23 [t, a, m] h = .ok (jn t a m) h := by
  unfold TT
  repeat' (first | exact List.forall_mem_nil _ | refine List.forall_mem_cons.mpr ⟨?_, ?_⟩ | (intro n h; kernel_rfl))

end K02

namespace K02
open PySem PySem.Spec PyProof.Rows L2 VI
theorem ljoin_ok : ∀ t ∈ TT, ∀ a ∈ names t, ∀ m ∈ names t, ∀ n h, tab.run fuel (n + 1) 25 [t, a, m] h = .ok (jn t a m) h := by
  unfold TT
  repeat' (first | exact List.forall_mem_nil _ | refine List.forall_mem_cons.mpr ⟨?_, ?_⟩ | (intro n h; kernel_rfl))
theorem jnon : ∀ t ∈ TT, ∀ m ∈ names t, jn t .non m = m := by
  unfold TT
  repeat' (first | exact List.forall_mem_nil _ | refine List.forall_mem_cons.mpr ⟨?_, ?_⟩ | kernel_rfl)
theorem allow_ok : ∀ t ∈ TT, ∀ a ∈ names t, ∀ m ∈ names t, ∀ n h, tab.run fuel (n + 1) 27 [t, a, m] h = .ok (.bl (al t a m)) h := by
  unfold TT
  repeat' (first | exact List.forall_mem_nil _ | refine List.forall_mem_cons.mpr ⟨?_, ?_⟩ | (intro n h; kernel_rfl))
theorem allow0 : ∀ t ∈ TT, ∀ m ∈ names t, ∀ n h, tab.run fuel (n + 1) 27 [t, .non, m] h = .ok (.bl true) h := by
  unfold TT
  repeat' (first | exact List.forall_mem_nil _ | refine List.forall_mem_cons.mpr ⟨?_, ?_⟩ | (intro n h; kernel_rfl))
theorem in_ok : ∀ t ∈ TT, ∀ a ∈ names t, ∀ m ∈ names t, ∀ h, isIn (.tup [a, m]) (alT t) h = some (al t a m) := by
  unfold TT
  repeat' (first | exact List.forall_mem_nil _ | refine List.forall_mem_cons.mpr ⟨?_, ?_⟩ | (intro h; kernel_rfl))
theorem idx0 : ∀ t ∈ TT, ∀ h, idxD t (.int 0) h = some (.tup (names t)) := by
  unfold TT
  repeat' (first | exact List.forall_mem_nil _ | refine List.forall_mem_cons.mpr ⟨?_, ?_⟩ | (intro h; kernel_rfl))
theorem idx1 : ∀ t ∈ TT, ∀ h, idxD t (.int 1) h = some (alT t) := by
  unfold TT
  repeat' (first | exact List.forall_mem_nil _ | refine List.forall_mem_cons.mpr ⟨?_, ?_⟩ | (intro h; kernel_rfl))
def strIn (d : D) (l : List D) : Bool := l.any fun x => match x, d with
  | .str a, .str b => a == b
  | _, _ => false
theorem strIn_ok {d : D} {l : List D} (h : strIn d l = true) : d ∈ l := by
  obtain ⟨x, hx, e⟩ := List.any_eq_true.mp h
  cases x <;> cases d <;> simp only [Bool.false_eq_true, beq_iff_eq] at e
  subst e
  exact hx
def isStr : D → Bool
  | .str s => s.cps.toList.all (fun c => decide (c < 128)) && decide (s.length ≤ 4)
  | _ => false
theorem chk1 : (TT.all fun t => (.non :: names t).all fun a => (names t).all fun m => strIn (jn t a m) (names t)) = true := by decide +kernel
theorem chk2 : (TT.all fun t => (names t).all fun a => (names t).all fun b => (names t).all fun c => al t (jn t a b) c == (al t a c && al t b c)) = true := by decide +kernel
theorem chk3 : (TT.all fun t => (names t).all isStr) = true := by decide +kernel
theorem chk4 : (TT.all fun t => pureD t && (match pyD t with | some d => decide (wtP d ≤ 10000) && decide (d.depth ≤ 5) | none => false) && decide (0 < (names t).length) && decide ((names t).length ≤ 6)) = true := by decide +kernel
theorem jn_mem {t a m : D} (ht : t ∈ TT) (ha : a ∈ .non :: names t) (hm : m ∈ names t) : jn t a m ∈ names t := strIn_ok (List.all_eq_true.mp (List.all_eq_true.mp (List.all_eq_true.mp chk1 t ht) a ha) m hm)
theorem exact_ok {t a b c : D} (ht : t ∈ TT) (ha : a ∈ names t) (hb : b ∈ names t) (hc : c ∈ names t) : al t (jn t a b) c = (al t a c && al t b c) := by
  simpa using List.all_eq_true.mp (List.all_eq_true.mp (List.all_eq_true.mp (List.all_eq_true.mp chk2 t ht) a ha) b hb) c hc
theorem isStr_ok {t m : D} (ht : t ∈ TT) (hm : m ∈ names t) : ∃ s : Str, m = .str s ∧ s.cps.toList.all (fun c => decide (c < 128)) = true ∧ s.length ≤ 4 := by
  have e := List.all_eq_true.mp (List.all_eq_true.mp chk3 t ht) m hm
  cases m <;> simp only [isStr, Bool.false_eq_true] at e
  rename_i s
  rw [Bool.and_eq_true, decide_eq_true_eq] at e
  exact ⟨s, rfl, e.1, e.2⟩
theorem tab4 {t : D} (ht : t ∈ TT) : pureD t = true ∧ (∃ d, pyD t = some d ∧ wtP d ≤ 10000 ∧ d.depth ≤ 5) ∧ 0 < (names t).length ∧ (names t).length ≤ 6 := by
  have e := List.all_eq_true.mp chk4 t ht
  simp only [Bool.and_eq_true, decide_eq_true_eq] at e
  obtain ⟨⟨⟨a, b⟩, c⟩, d⟩ := e
  refine ⟨a, ?_, c, d⟩
  cases hp : pyD t with
  | none => rw [hp] at b; cases b
  | some d =>
    rw [hp] at b
    simp only [Bool.and_eq_true, decide_eq_true_eq] at b
    exact ⟨d, rfl, b.1, b.2⟩
/-! ### the rows -/
inductive Row (few : List D) : D → Prop
  | l : Row few (.lst few)
  | t : Row few (.tup few)
section
variable {few : List D} {s : D} {t : D}
theorem Row.fz (r : Row few s) (h : IH) : freeze s h = .ok s h := by cases r <;> rfl
theorem Row.items (r : Row few s) (h : IH) : itemsOf s h = .ok few h := by cases r <;> rfl
theorem Row.isi (r : Row few s) (h : IH) : bltD (.isi ["list", "tuple"]) [s] h = .ok (.bl true) h := by cases r <;> kernel_rfl
theorem str_pure {m : D} (ht : t ∈ TT) (hm : m ∈ names t) : pureD m = true := by
  obtain ⟨s, rfl, _⟩ := isStr_ok ht hm
  rfl
theorem Row.pu (r : Row few s) (ht : t ∈ TT) (hf : ∀ m ∈ few, m ∈ names t) : pureD s = true := by
  have e : pureDs few = true := pureDs_all fun x hx => str_pure ht (hf x hx)
  cases r <;> exact e
theorem some_ok (r : Row few s) (ht : t ∈ TT) (hf : ∀ m ∈ few, m ∈ names t) (n : Nat) (h : IH) : tab.run fuel (n + 5) 21 [t, s] h = .ok .non h := by
  rw [runP (fn := f21.fn) rfl rfl rfl (by simp only [pureDs, (tab4 ht).1, r.pu ht hf, Bool.and_self])]
  show endP h (exSs (tab.en fuel (n + 4)) b21 [some t, some s, none] ⟨0, []⟩) = _
  have hI : evI (tab.en fuel (n + 4)) (.val (.var 1)) [some t, some s, none] ⟨0, []⟩ = .ok few ⟨0, []⟩ := by
    simp only [evI, evE, bd_ok, List.getElem?_cons_zero, List.getElem?_cons_succ, r.fz, r.items]
  obtain ⟨σ', h', e, _⟩ := for_acc (t := .nm 2) (b := l21_0) hI (fun (a : Unit) _ => a) (fun _ σ _ => ∃ o, σ = [some t, some s, o]) () ⟨none, rfl⟩ (by
    rintro x hx a σ h0 ⟨o, rfl⟩
    refine ⟨[some t, some s, some x], [some t, some s, some x], h0, rfl, ?_, some x, rfl⟩
    simp only [l21_0, exSs, exS, evE, evEs, bd_ok, List.getElem?_cons_zero, List.getElem?_cons_succ, en_call, reqm_ok t ht x (hf x hx)])
  have e1 : exS (tab.en fuel (n + 4)) s21_0 [some t, some s, none] ⟨0, []⟩ = .ok (.nx σ') h' := e
  simp only [b21, exSs, exS, evE, evEs, evT, bd_ok, List.getElem?_cons_zero, List.getElem?_cons_succ, en_call, req_ok t ht, r.isi, truD, ansT_some, Bool.not_true, e1]
  rfl
end
end K02

namespace K02
open PySem PySem.Spec PyProof.Rows L2 VI
section
variable {few : List D} {s : D} {t : D}
def J (t : D) (few : List D) : D := few.foldl (jn t) .non
theorem fold_mem (ht : t ∈ TT) : ∀ (few : List D), (∀ m ∈ few, m ∈ names t) → ∀ a, a ∈ .non :: names t → few.foldl (jn t) a ∈ .non :: names t
  | [], _, a, ha => ha
  | m :: few, hf, a, ha => fold_mem ht few (fun x hx => hf x (List.mem_cons_of_mem _ hx)) (jn t a m) (List.mem_cons_of_mem _ (jn_mem ht ha (hf m List.mem_cons_self)))
theorem opt_pure {a : D} (ht : t ∈ TT) (ha : a ∈ .non :: names t) : pureD a = true := by
  rcases List.mem_cons.mp ha with rfl | ha
  · rfl
  · exact str_pure ht ha
theorem J_mem (ht : t ∈ TT) (hf : ∀ m ∈ few, m ∈ names t) : J t few ∈ .non :: names t := fold_mem ht few hf _ List.mem_cons_self
theorem joined_ok (r : Row few s) (ht : t ∈ TT) (hf : ∀ m ∈ few, m ∈ names t) (n : Nat) (h : IH) : tab.run fuel (n + 6) 20 [t, s] h = .ok (J t few) h := by
  rw [runP (fn := f20.fn) rfl rfl rfl (by simp only [pureDs, (tab4 ht).1, r.pu ht hf, Bool.and_self])]
  show endP h (exSs (tab.en fuel (n + 5)) b20 [some t, some s, none, none] ⟨0, []⟩) = _
  have hI : evI (tab.en fuel (n + 5)) (.val (.var 1)) [some t, some s, some .non, none] ⟨0, []⟩ = .ok few ⟨0, []⟩ := by
    simp only [evI, evE, bd_ok, List.getElem?_cons_zero, List.getElem?_cons_succ, r.fz, r.items]
  obtain ⟨σ', h', e, ⟨o, e2⟩, _⟩ := for_acc (t := .nm 3) (b := l20_0) hI (jn t) (fun a σ _ => (∃ o, σ = [some t, some s, some a, o]) ∧ a ∈ .non :: names t) .non ⟨⟨none, rfl⟩, List.mem_cons_self⟩ (by
    rintro x hx a σ h0 ⟨⟨o, rfl⟩, ha⟩
    refine ⟨[some t, some s, some a, some x], [some t, some s, some (jn t a x), some x], h0, rfl, ?_, ⟨some x, rfl⟩, List.mem_cons_of_mem _ (jn_mem ht ha (hf x hx))⟩
    simp only [l20_0, exSs, exS, evE, evEs, bd_ok, asg_ok, List.set_cons_succ, List.set_cons_zero, List.getElem?_cons_zero, List.getElem?_cons_succ, en_call, join_ok t ht a ha x (hf x hx)])
  have e1 : exS (tab.en fuel (n + 5)) s20_0 [some t, some s, some .non, none] ⟨0, []⟩ = .ok (.nx σ') h' := e
  simp only [b20, exSs, exS, evE, evEs, evT, bd_ok, List.getElem?_cons_zero, List.getElem?_cons_succ, en_call, some_ok r ht hf, asg_ok, List.set_cons_succ, List.set_cons_zero, e1]
  rw [e2]
  have p := opt_pure ht (J_mem ht hf)
  unfold J at p ⊢
  rcases List.mem_cons.mp (J_mem ht hf) with z | z
  · unfold J at z
    simp only [bd_ok, List.getElem?_cons_zero, List.getElem?_cons_succ, z]
    rfl
  · obtain ⟨y, z, _⟩ := isStr_ok ht z
    unfold J at z
    simp only [bd_ok, List.getElem?_cons_zero, List.getElem?_cons_succ, z]
    rfl
theorem ljoined_ok (ht : t ∈ TT) (hf : ∀ m ∈ few, m ∈ names t) (n : Nat) (h : IH) : tab.run fuel (n + 2) 24 [t, .lst few] h = .ok (J t few) h := by
  rw [runP (fn := f24.fn) rfl rfl rfl (by simp only [pureDs, (tab4 ht).1, Row.pu .l ht hf, Bool.and_self])]
  show endP h (exSs (tab.en fuel (n + 1)) b24 [some t, some (.lst few), none, none] ⟨0, []⟩) = _
  have hI : evI (tab.en fuel (n + 1)) (.val (.var 1)) [some t, some (.lst few), some .non, none] ⟨0, []⟩ = .ok few ⟨0, []⟩ := by
    simp only [evI, evE, bd_ok, List.getElem?_cons_zero, List.getElem?_cons_succ, Row.fz .l, Row.items .l]
  obtain ⟨σ', h', e, ⟨o, e2⟩, _⟩ := for_acc (t := .nm 3) (b := l24_0) hI (jn t) (fun a σ _ => (∃ o, σ = [some t, some (.lst few), some a, o]) ∧ a ∈ .non :: names t) .non ⟨⟨none, rfl⟩, List.mem_cons_self⟩ (by
    rintro x hx a σ h0 ⟨⟨o, rfl⟩, ha⟩
    refine ⟨[some t, some (.lst few), some a, some x], [some t, some (.lst few), some (jn t a x), some x], h0, rfl, ?_, ⟨some x, rfl⟩, List.mem_cons_of_mem _ (jn_mem ht ha (hf x hx))⟩
    simp only [l24_0, exSs, exS, evE, evEs, evT, bd_ok, List.getElem?_cons_zero, List.getElem?_cons_succ, en_call]
    rcases List.mem_cons.mp ha with rfl | ha
    · rw [jnon t ht x (hf x hx)]
      rfl
    · obtain ⟨y, rfl, _⟩ := isStr_ok ht ha
      simp only [cmpD, ansT_some, bd_ok, ljoin_ok t ht _ ha x (hf x hx), asg_ok, List.set_cons_succ, List.set_cons_zero])
  have e1 : exS (tab.en fuel (n + 1)) s24_0 [some t, some (.lst few), some .non, none] ⟨0, []⟩ = .ok (.nx σ') h' := e
  simp only [b24, exSs, exS, evE, evEs, evT, bd_ok, List.getElem?_cons_zero, List.getElem?_cons_succ, en_call, asg_ok, List.set_cons_succ, List.set_cons_zero, e1]
  rw [e2]
  rcases List.mem_cons.mp (J_mem ht hf) with z | z
  · unfold J at z ⊢
    simp only [bd_ok, List.getElem?_cons_zero, List.getElem?_cons_succ, z]
    rfl
  · obtain ⟨y, z, _⟩ := isStr_ok ht z
    unfold J at z ⊢
    simp only [bd_ok, List.getElem?_cons_zero, List.getElem?_cons_succ, z]
    rfl
/-! ### standing -/
def alO (t a m : D) : Bool := match a with
  | .non => true
  | _ => al t a m
theorem alO_str {a m : D} (ht : t ∈ TT) (ha : a ∈ names t) : alO t a m = al t a m := by
  obtain ⟨y, rfl, _⟩ := isStr_ok ht ha
  rfl
theorem allowO {a m : D} (ht : t ∈ TT) (ha : a ∈ .non :: names t) (hm : m ∈ names t) (n : Nat) (h : IH) : tab.run fuel (n + 1) 27 [t, a, m] h = .ok (.bl (alO t a m)) h := by
  rcases List.mem_cons.mp ha with rfl | ha
  · exact allow0 t ht m hm n h
  · rw [alO_str ht ha]; exact allow_ok t ht a ha m hm n h
def M (t : D) (few : List D) : Bool := goes (jn t) (alO t) .non few
theorem stand_ok (r : Row few s) (ht : t ∈ TT) (hf : ∀ m ∈ few, m ∈ names t) (n : Nat) (h : IH) : tab.run fuel (n + 6) 26 [t, s] h = .ok (.bl (M t few)) h := by
  rw [runP (fn := f26.fn) rfl rfl rfl (by simp only [pureDs, (tab4 ht).1, r.pu ht hf, Bool.and_self])]
  show endP h (exSs (tab.en fuel (n + 5)) b26 [some t, some s, none, none] ⟨0, []⟩) = _
  have hI : evI (tab.en fuel (n + 5)) (.val (.var 1)) [some t, some s, some .non, none] ⟨0, []⟩ = .ok few ⟨0, []⟩ := by
    simp only [evI, evE, bd_ok, List.getElem?_cons_zero, List.getElem?_cons_succ, r.fz, r.items]
  obtain ⟨c1, c2⟩ := for_stop (t := .nm 3) (b := l26_0) hI (jn t) (alO t) (.bl false) (fun a σ _ => (∃ o, σ = [some t, some s, some a, o]) ∧ a ∈ .non :: names t) .non ⟨⟨none, rfl⟩, List.mem_cons_self⟩ (by
    rintro x hx a σ h0 ⟨⟨o, rfl⟩, ha⟩
    refine ⟨[some t, some s, some a, some x], rfl, ?_⟩
    simp only [l26_0, exSs, exS, evE, evEs, evT, bd_ok, List.getElem?_cons_zero, List.getElem?_cons_succ, en_call, allowO ht ha (hf x hx), truD, ansT_some]
    refine ⟨fun g => ⟨[some t, some s, some (jn t a x), some x], h0, ?_, ⟨some x, rfl⟩, List.mem_cons_of_mem _ (jn_mem ht ha (hf x hx))⟩, fun g => ⟨h0, ?_⟩⟩
    · rw [g]
      simp only [Bool.not_true, bd_ok, List.getElem?_cons_zero, List.getElem?_cons_succ, exSs, join_ok t ht a ha x (hf x hx), asg_ok, List.set_cons_succ, List.set_cons_zero]
    · rw [g]
      rfl)
  unfold M
  cases hg : goes (jn t) (alO t) .non few with
  | true =>
    obtain ⟨σ', h', e, _⟩ := c1 hg
    have e1 : exS (tab.en fuel (n + 5)) s26_0 [some t, some s, some .non, none] ⟨0, []⟩ = .ok (.nx σ') h' := e
    simp only [b26, exSs, exS, evE, evEs, evT, bd_ok, List.getElem?_cons_zero, List.getElem?_cons_succ, en_call, some_ok r ht hf, asg_ok, List.set_cons_succ, List.set_cons_zero, e1]
    rfl
  | false =>
    obtain ⟨h', e⟩ := c2 hg
    have e1 : exS (tab.en fuel (n + 5)) s26_0 [some t, some s, some .non, none] ⟨0, []⟩ = .ok (.rt (.bl false)) h' := e
    simp only [b26, exSs, exS, evE, evEs, evT, bd_ok, List.getElem?_cons_zero, List.getElem?_cons_succ, en_call, some_ok r ht hf, asg_ok, List.set_cons_succ, List.set_cons_zero, e1]
    rfl
end
end K02

namespace K02
open PySem PySem.Spec PyProof.Rows L2 VI
theorem pyDs_strs : ∀ ys : List D, (∀ y ∈ ys, ∃ s : Str, y = .str s ∧ PyData.strOk s = true) → ∃ ps, pyDs ys = some ps ∧ PyData.canLayAll0 ps = true ∧ PyData.depthAll ps = 0 ∧ ps.length = ys.length
  | [], _ => ⟨[], rfl, rfl, rfl, rfl⟩
  | y :: ys, h => by
    obtain ⟨s, rfl, hs⟩ := h y List.mem_cons_self
    obtain ⟨ps, e, c, d, l⟩ := pyDs_strs ys fun z hz => h z (List.mem_cons_of_mem _ hz)
    refine ⟨.str s :: ps, by simp only [pyDs, pyD, e, Option.map_some], ?_, ?_, congrArg Nat.succ l⟩
    · simp only [PyData.canLayAll0, PyData.canLay0, hs, c, Bool.and_self]
    · simp only [PyData.depthAll, PyData.depth, d, Nat.max_self]
theorem ne_nil (ys : List D) (hs : ∀ y ∈ ys, ∃ s : Str, y = .str s ∧ PyData.strOk s = true) (h : IH) : cmpD .NotEq (.lst ys) (.lst []) h = some (!ys.isEmpty) := by
  obtain ⟨ps, e, c, d, l⟩ := pyDs_strs ys hs
  have s1 : SeqAt.shaped (.list ps) = true := by
    simp only [SeqAt.shaped, PyData.canLay0, c, PyData.depth, d, Bool.true_and]
    decide
  have s2 : SeqAt.shaped (.list []) = true := by decide
  simp only [cmpD, eqD, scalD, Bool.false_eq_true, if_false, eqvD, viewD, lstOf, pyD, e, pyDs, Option.map_some, s1, s2, Bool.and_self, if_true]
  cases ys with
  | nil => cases ps with
    | nil => rfl
    | cons _ _ => cases l
  | cons y ys => cases ps with
    | nil => cases l
    | cons _ _ => rfl
theorem ascii_ok {s : Str} (h : s.cps.toList.all (fun c => decide (c < 128)) = true) : PyData.strOk s = true := by
  unfold PyData.strOk
  rw [← Array.all_toList]
  refine List.all_eq_true.mpr fun c hc => ?_
  have z := List.all_eq_true.mp h c hc
  simp only [decide_eq_true_eq] at z ⊢
  omega
theorem enum_mem : ∀ (xs : List D) (k : Nat) (x : D), x ∈ enumD k xs → ∃ i m, x = .tup [.int ((k + i : Nat) : Int), m] ∧ xs[i]? = some m
  | [], k, x, h => by cases h
  | y :: xs, k, x, h => by
    rcases List.mem_cons.mp h with rfl | h
    · exact ⟨0, y, rfl, rfl⟩
    · obtain ⟨i, m, e, g⟩ := enum_mem xs (k + 1) x h
      exact ⟨i + 1, m, by rw [e]; congr 4; omega, by simpa using g⟩
section
variable {few : List D} {s : D} {t : D}
def gS (t : D) (few : List D) (x : D) : Bool := match x with
  | .tup [.int i, m] => (few.take i.toNat).all fun a => al t a m
  | _ => false
def L (t : D) (few : List D) : Bool := goes (fun (_ : Unit) _ => ()) (fun _ x => gS t few x) () (enumD 0 few)
theorem comp_ok {m : D} {i : Nat} (ht : t ∈ TT) (hf : ∀ m ∈ few, m ∈ names t) (fl : few.length < 900) (hm : m ∈ names t) (n : Nat) (o : Option D) (h : IH) :
    evE (tab.en fuel n) q28_0 [some t, some (.lst few), some (.int i), some m, o] h = .ok (.lst ((few.take i).filterMap fun a => if al t a m then none else some a)) h := by
  have z2 : (few.take i).length ≤ few.length := by rw [List.length_take]; omega
  have hI : evI (tab.en fuel n) (.val (.slc (.var 1) .none (.some (.var 2)))) [some t, some (.lst few), some (.int i), some m, o] h = .ok (few.take i) h := by
    simp only [evI, evE, evO, bd_ok, List.getElem?_cons_zero, List.getElem?_cons_succ, slcD, lstOf, cut_take, freeze, itemsOf]
  show evE (tab.en fuel n) (.lc1 false [("_law_held", 4)] e28_0 (.val (.slc (.var 1) .none (.some (.var 2)))) (.nm 4) c28_0) _ h = _
  rw [lc1_map hI (fun a => if al t a m then none else some a) (by omega)]
  · have z1 : ((few.take i).filterMap fun a => if al t a m then none else some a).length ≤ (few.take i).length := List.length_filterMap_le ..
    have big : (1000 : Nat) < sizeLine := by rw [sizeLine_eq]; decide
    simp only [mkL, Bool.false_eq_true, if_false]
    rw [if_pos (by omega)]
  · intro x hx
    have hx' := hf x (List.mem_of_mem_take hx)
    have mk : mkT [x, m] h = .ok (.tup [x, m]) h := rfl
    refine ⟨[some t, some (.lst few), some (.int i), some m, some x], !(al t x m), rfl, ?_, fun g => ⟨x, rfl, ?_⟩, fun g => ?_⟩
    · simp only [c28_0, evT, evE, evEs, bd_ok, List.getElem?_cons_zero, List.getElem?_cons_succ, idx1 t ht, ansD_some, mk, cmpD, in_ok t ht x hx' m hm, Option.map_some, ansT_some]
    · rw [Bool.not_eq_true'] at g; rw [g]; rfl
    · rw [Bool.not_eq_false'] at g; rw [g]; rfl
theorem lstands_ok (ht : t ∈ TT) (hf : ∀ m ∈ few, m ∈ names t) (fl : few.length < 900) (n : Nat) (h : IH) : tab.run fuel (n + 1) 28 [t, .lst few] h = .ok (.bl (L t few)) h := by
  rw [runP (fn := f28.fn) rfl rfl rfl (by simp only [pureDs, (tab4 ht).1, Row.pu .l ht hf, Bool.and_self])]
  show endP h (exSs (tab.en fuel n) b28 [some t, some (.lst few), none, none, none] ⟨0, []⟩) = _
  have hI : evI (tab.en fuel n) (.enm (.var 1)) [some t, some (.lst few), none, none, none] ⟨0, []⟩ = .ok (enumD 0 few) ⟨0, []⟩ := by
    simp only [evI, evE, bd_ok, List.getElem?_cons_zero, List.getElem?_cons_succ, freeze, seqItems]
  obtain ⟨c1, c2⟩ := for_stop (t := .tp [.nm 2, .nm 3]) (b := l28_0) hI (fun (_ : Unit) _ => ()) (fun _ x => gS t few x) (.bl false) (fun a σ _ => ∃ o p q, σ = [some t, some (.lst few), o, p, q]) () ⟨none, none, none, rfl⟩ (by
    rintro x hx a σ h0 ⟨o, p, q, rfl⟩
    obtain ⟨i, m, rfl, hi⟩ := enum_mem few 0 x hx
    have hm := hf m (List.mem_of_getElem? hi)
    rw [Nat.zero_add]
    have mk : ∀ h, mkL false [] h = .ok (.lst []) h := fun h => rfl
    have ne := ne_nil ((few.take i).filterMap fun a => if al t a m then none else some a) (fun y hy => by
      obtain ⟨a, ha, e⟩ := List.mem_filterMap.mp hy
      split at e
      · cases e
      · cases e
        obtain ⟨z, rfl, z1, _⟩ := isStr_ok ht (hf _ (List.mem_of_mem_take ha))
        exact ⟨z, rfl, ascii_ok z1⟩) h0
    have key : ((few.take i).filterMap fun a => if al t a m then none else some a).isEmpty = gS t few (.tup [.int (i : Int), m]) := by
      simp only [gS, Int.toNat_natCast]
      generalize few.take i = l
      induction l with
      | nil => rfl
      | cons a l ih =>
        cases ha : al t a m with
        | true => rw [List.filterMap_cons_none (by simp [ha]), List.all_cons, ha, Bool.true_and, ih]
        | false => rw [List.filterMap_cons_some (b := a) (by simp [ha]), List.all_cons, ha]; rfl
    rw [key] at ne
    refine ⟨[some t, some (.lst few), some (.int (i : Int)), some m, q], rfl, ?_⟩
    simp only [l28_0, exSs, exS, evE, evEs, evT, bd_ok, comp_ok ht hf fl hm n q h0, mk, ne, ansT_some]
    refine ⟨fun g => ⟨_, h0, ?_, some (.int (i : Int)), some m, q, rfl⟩, fun g => ⟨h0, ?_⟩⟩
    · rw [g]; rfl
    · rw [g]; rfl)
  unfold L
  cases hg : goes (fun (_ : Unit) _ => ()) (fun _ x => gS t few x) () (enumD 0 few) with
  | true =>
    obtain ⟨σ', h', e, _⟩ := c1 hg
    have e1 : exS (tab.en fuel n) s28_0 [some t, some (.lst few), none, none, none] ⟨0, []⟩ = .ok (.nx σ') h' := e
    simp only [b28, exSs, exS, evE, bd_ok, e1]
    rfl
  | false =>
    obtain ⟨h', e⟩ := c2 hg
    have e1 : exS (tab.en fuel n) s28_0 [some t, some (.lst few), none, none, none] ⟨0, []⟩ = .ok (.rt (.bl false)) h' := e
    simp only [b28, exSs, exS, evE, bd_ok, e1]
    rfl
theorem alO_fold (ht : t ∈ TT) {m : D} (hm : m ∈ names t) : ∀ (xs : List D), (∀ x ∈ xs, x ∈ names t) → ∀ a, a ∈ .non :: names t → alO t (xs.foldl (jn t) a) m = (alO t a m && xs.all fun x => al t x m)
  | [], _, a, _ => by simp
  | x :: xs, hx, a, ha => by
    have h1 := hx x List.mem_cons_self
    rw [List.foldl_cons, alO_fold ht hm xs (fun y hy => hx y (List.mem_cons_of_mem _ hy)) _ (List.mem_cons_of_mem _ (jn_mem ht ha h1)), List.all_cons, alO_str ht (jn_mem ht ha h1), ← Bool.and_assoc]
    congr 1
    rcases List.mem_cons.mp ha with rfl | ha
    · rw [jnon t ht x h1]; rfl
    · rw [exact_ok ht ha h1 hm, alO_str ht ha]
theorem same_goes (ht : t ∈ TT) : ∀ (xs pre : List D), (∀ x ∈ pre ++ xs, x ∈ names t) → goes (fun (_ : Unit) _ => ()) (fun _ x => gS t (pre ++ xs) x) () (enumD pre.length xs) = goes (jn t) (alO t) (J t pre) xs
  | [], _, _ => rfl
  | x :: xs, pre, h => by
    have hx : x ∈ names t := h x (by simp)
    have hp : ∀ y ∈ pre, y ∈ names t := fun y hy => h y (by simp [hy])
    have ih := same_goes ht xs (pre ++ [x]) (fun y hy => h y (by simpa using hy))
    rw [List.append_assoc, List.singleton_append, List.length_append, List.length_singleton] at ih
    simp only [enumD, goes]
    rw [ih]
    have e1 : gS t (pre ++ x :: xs) (.tup [.int (pre.length : Int), x]) = alO t (J t pre) x := by
      unfold J
      rw [alO_fold ht hx pre hp _ List.mem_cons_self]
      simp only [gS, Int.toNat_natCast, alO, Bool.true_and]
      rw [List.take_left]
    have e2 : J t (pre ++ [x]) = jn t (J t pre) x := by
      unfold J
      rw [List.foldl_append]
      rfl
    rw [e1, e2]
theorem M_eq (ht : t ∈ TT) (hf : ∀ m ∈ few, m ∈ names t) : L t few = M t few := same_goes ht few [] hf
end
end K02

namespace K02
open PySem PySem.Spec PyProof.Rows L2 VI
theorem SrcOk.mono {k : Nat} {N M : Int} {h : IH} (S : SrcOk k N h) (l : N ≤ M) : SrcOk k M h := by
  obtain ⟨a, b, c, e, x, y, z, w⟩ := S
  exact ⟨a, b, c, e, x, y, z, Int.le_trans w l⟩
theorem atI_nat {xs : List D} {r : Int} (h0 : 0 ≤ r) (h1 : r < xs.length) : ∃ y, atI xs r = some y ∧ y ∈ xs := by
  have l : r.toNat < xs.length := by omega
  refine ⟨xs[r.toNat], ?_, List.getElem_mem l⟩
  unfold atI ixN
  rw [if_pos h0, if_pos h1, Option.bind_some]
  exact List.getElem?_eq_getElem l
theorem pick_ok {k : Nat} {N : Int} {h : IH} {t : D} (S : SrcOk k N h) (hN : N < 10 ^ 9) (ht : t ∈ TT) (n : Nat) : ∃ y h', tab.run fuel (n + 3) 17 [.ref k, .tup (names t)] h = .ok y h' ∧ y ∈ names t ∧ SrcOk k (N + 1) h' := by
  obtain ⟨_, _, l1, l2⟩ := tab4 ht
  obtain ⟨r, h', e, r0, r1, S'⟩ := take_ok S hN (b := ((names t).length : Int)) (by omega) (by omega) n
  obtain ⟨y, ey, hy⟩ := atI_nat r0 r1
  refine ⟨y, h', ?_, hy, S'⟩
  rw [runI (fn := f17.fn) rfl rfl rfl]
  show endF (exSs (tab.en fuel (n + 2)) b17 [some (.ref k), some (.tup (names t))] h) = _
  have ln : bltD .len [.tup (names t)] h = .ok (.int ((names t).length : Nat)) h := rfl
  have ix : idxD (.tup (names t)) (.int r) h' = some y := by simp only [idxD, seqOf]; exact ey
  simp only [b17, exSs, exS, evE, evEs, bd_ok, List.getElem?_cons_zero, List.getElem?_cons_succ, ln, en_call, e, ix, ansD_some]
  obtain ⟨z, rfl, _⟩ := isStr_ok ht hy
  rfl
theorem range_len (lo : Int) : ∀ n : Nat, (rangeD lo n).length = n
  | 0 => rfl
  | n + 1 => congrArg Nat.succ (range_len (lo + 1) n)
section
variable {few : List D} {t : D} {a0 a1 a3 a5 a6 a7 a8 : Option D} {k : Nat} {N : Int} {h : IH}
theorem few_ok (S : SrcOk k N h) (hN : N + 8 < 10 ^ 9) (ht : t ∈ TT) (n : Nat) : ∃ few h', evE (tab.en fuel (n + 3)) q0_0 [a0, a1, some t, a3, some (.ref k), a5, a6, a7, a8] h = .ok (.lst few) h' ∧ (∀ m ∈ few, m ∈ names t) ∧ few.length ≤ 7 ∧ SrcOk k (N + 8) h' := by
  obtain ⟨r, h1, e, r0, r1, S1⟩ := take_ok S (by omega) (b := 8) (by decide) (by decide) (n + 1)
  have e' : tab.run fuel (n + 3) 18 [.ref k, .int 8] h = .ok (.int r) h1 := e
  have hI : evI (tab.en fuel (n + 3)) (.rng1 (.call 18 (.cons (.var 4) (.cons (.cst (.int 8)) .nil)))) [a0, a1, some t, a3, some (.ref k), a5, a6, a7, a8] h = .ok (rangeD 0 r.toNat) h1 := by
    simp only [evI, evE, evEs, bd_ok, List.getElem?_cons_zero, List.getElem?_cons_succ, en_call, e', range1]
    rw [if_pos (by omega)]
  obtain ⟨ys, h2, e2, ⟨p1, p2⟩, l⟩ := lc1_idx (m := false) (own := [("_law_k", 7)]) (elt := e0_0) (t := .nm 7) hI (fun i acc h => SrcOk k (N + 1 + i) h ∧ ∀ y ∈ acc, y ∈ names t) ⟨by simpa using S1, fun y hy => by cases hy⟩ (by rw [range_len]; omega) (by
    rintro i x hx acc h0 ⟨S0, q0⟩
    have li : i < r.toNat := by
      have := (List.getElem?_eq_some_iff.mp hx).1
      rwa [range_len] at this
    obtain ⟨y, h3, e3, hy, S3⟩ := pick_ok S0 (by omega) ht n
    have e3' : tab.run fuel (n + 3) 17 [.ref k, .tup (names t)] h0 = .ok y h3 := e3
    refine ⟨[a0, a1, some t, a3, some (.ref k), a5, a6, some x, a8], y, h3, rfl, ?_, S3.mono (by omega), fun z hz => ?_⟩
    · simp only [e0_0, evE, evEs, bd_ok, List.getElem?_cons_zero, List.getElem?_cons_succ, en_call, idx0 t ht, ansD_some, e3']
    · rcases List.mem_append.mp hz with hz | hz
      · exact q0 z hz
      · rw [List.mem_singleton.mp hz]; exact hy)
  rw [range_len] at l p1
  refine ⟨ys, h2, ?_, p2, by omega, p1.mono (by omega)⟩
  show evE (tab.en fuel (n + 3)) (.lc1 false [("_law_k", 7)] e0_0 (.rng1 (.call 18 (.cons (.var 4) (.cons (.cst (.int 8)) .nil)))) (.nm 7) .yes) _ h = _
  rw [e2]
  simp only [mkL, Bool.false_eq_true, if_false]
  rw [if_pos (by rw [sizeLine_eq]; omega)]
theorem wt_strs : ∀ ys : List D, (∀ y ∈ ys, ∃ s : Str, y = .str s ∧ s.cps.toList.all (fun c => decide (c < 128)) = true ∧ s.length ≤ 4) → ∃ ps, pyDs ys = some ps ∧ wtPs ps ≤ 44 * ys.length ∧ PyData.depthAll ps = 0
  | [], _ => ⟨[], rfl, Nat.le_refl _, rfl⟩
  | y :: ys, hy => by
    obtain ⟨s, rfl, s1, s2⟩ := hy y List.mem_cons_self
    obtain ⟨ps, e, w, d⟩ := wt_strs ys fun z hz => hy z (List.mem_cons_of_mem _ hz)
    refine ⟨.str s :: ps, by simp only [pyDs, pyD, e, Option.map_some], ?_, by simp only [PyData.depthAll, PyData.depth, d, Nat.max_self]⟩
    have c : s.cps.toList.all (fun c => decide (c < 16 ^ 8)) = true := List.all_eq_true.mpr fun c hc => by
      have z := List.all_eq_true.mp s1 c hc
      simp only [decide_eq_true_eq] at z ⊢
      omega
    simp only [wtPs, wtP, c, if_true, List.length_cons]
    omega
theorem repr_ok (ht : t ∈ TT) (hf : ∀ m ∈ few, m ∈ names t) (fl : few.length ≤ 7) : ∃ z : Str, ∀ h, bltD .reprV [.tup [t, .lst few]] h = .ok (.str z) h := by
  obtain ⟨_, ⟨d, e, w, dd⟩, _⟩ := tab4 ht
  obtain ⟨ps, e2, w2, d2⟩ := wt_strs few fun y hy => isStr_ok ht (hf y hy)
  refine ⟨(PyData.tuple [d, .list ps]).shown, fun h => ?_⟩
  simp only [bltD, viewD, lstOf, pyD, pyDs, e, e2, Option.map_some]
  rw [if_pos]
  refine ⟨?_, ?_⟩
  · simp only [wtP, wtPs]; omega
  · simp only [PyData.depth, PyData.depthAll, d2]; omega
theorem reprb (b : Bool) : ∃ z : Str, ∀ h, bltD .reprV [.bl b] h = .ok (.str z) h := ⟨(PyData.bool b).shown, fun h => rfl⟩
theorem ne_str (z : Str) (h : IH) : cmpD .NotEq (.str z) (.str z) h = some false := by
  simp only [cmpD, eqD, scalD, if_true, eqF, beq_self_eq_true, Option.map_some, Bool.not_true]
theorem ne_bl (b : Bool) (h : IH) : cmpD .NotEq (.bl b) (.bl b) h = some false := by cases b <;> rfl
theorem ne_J (ht : t ∈ TT) (hf : ∀ m ∈ few, m ∈ names t) (h : IH) : cmpD .NotEq (J t few) (J t few) h = some false := by
  rcases List.mem_cons.mp (J_mem ht hf) with z | z
  · rw [z]; rfl
  · obtain ⟨y, z, _⟩ := isStr_ok ht z
    rw [z]; exact ne_str y h
theorem pick10 {α : Type} {a b : α} : pick [1, 0] ([] ++ [a, b]) = [b, a] := rfl
theorem tup2 {x y : D} {h : IH} : mkT [x, y] h = .ok (.tup [x, y]) h := rfl
theorem tupl {h : IH} : bltD .tuple [.lst few] h = .ok (.tup few) h := rfl
theorem turn_ok (S : SrcOk k N h) (hN : N + 8 < 10 ^ 9) (ht : t ∈ TT) (n : Nat) : ∃ b6 b8 h', exSs (tab.en fuel (n + 6)) l0_0 [a0, a1, some t, a3, some (.ref k), a5, a6, a7, a8] h = .ok (.nx [a0, a1, some t, a3, some (.ref k), a5, b6, a7, b8]) h' ∧ SrcOk k (N + 8) h' := by
  obtain ⟨few, h1, e1, hf, fl, S1⟩ := few_ok (a0 := a0) (a1 := a1) (a3 := a3) (a5 := a5) (a6 := a6) (a7 := a7) (a8 := a8) S hN ht (n + 3)
  have e1' : evE (tab.en fuel (n + 6)) q0_0 [a0, a1, some t, a3, some (.ref k), a5, a6, a7, a8] h = .ok (.lst few) h1 := e1
  obtain ⟨z, ez⟩ := repr_ok ht hf fl
  obtain ⟨y, ey⟩ := reprb (M t few)
  have st : ∀ h, tab.run fuel (n + 6) 28 [t, .lst few] h = .ok (.bl (M t few)) h := fun h => by
    rw [← M_eq ht hf]
    exact lstands_ok ht hf (by omega) (n + 5) h
  have lj : ∀ h, tab.run fuel (n + 6) 24 [t, .lst few] h = .ok (J t few) h := fun h => ljoined_ok ht hf (n + 4) h
  have jl : ∀ h, tab.run fuel (n + 6) 20 [t, .lst few] h = .ok (J t few) h := fun h => joined_ok .l ht hf n h
  have jt : ∀ h, tab.run fuel (n + 6) 20 [t, .tup few] h = .ok (J t few) h := fun h => joined_ok .t ht hf n h
  have sl : ∀ h, tab.run fuel (n + 6) 26 [t, .lst few] h = .ok (.bl (M t few)) h := fun h => stand_ok .l ht hf n h
  have stt : ∀ h, tab.run fuel (n + 6) 26 [t, .tup few] h = .ok (.bl (M t few)) h := fun h => stand_ok .t ht hf n h
  refine ⟨some (.lst few), some (.str z), h1, ?_, S1⟩
  simp only [l0_0, exSs, exS, evE, evEs, evT, bd_ok, e1', asg_ok, List.set_cons_succ, List.set_cons_zero, List.getElem?_cons_zero, List.getElem?_cons_succ, tup2, ez, en_call, jl, lj, jt, sl, stt, st, ey, tupl, pick10, ne_J ht hf, ne_str, ne_bl, ansT_some]
/-! ### the law -/
def hd : ISs → IS
  | .cons s _ => s
  | .nil => .never
def tl : ISs → ISs
  | .cons _ r => r
  | .nil => .nil
theorem head_ok (S : D) : exSs (tab.en fuel 13) b0 [some S, none, none, none, none, none, none, none, none] ⟨0, []⟩ = exSs (tab.en fuel 13) (.cons s0_2 (.cons (.ret true (.cst (.bl true))) .nil)) [some S, some t3', none, none, none, none, none, none, none] ⟨0, []⟩ := by
  have c1 : exS (tab.en fuel 13) (hd b0) [some S, none, none, none, none, none, none, none, none] ⟨0, []⟩ = .ok (.nx [some S, some t3', none, none, none, none, none, none, none]) ⟨0, []⟩ := by kernel_rfl
  have c2 : exS (tab.en fuel 13) (hd (tl b0)) [some S, some t3', none, none, none, none, none, none, none] ⟨0, []⟩ = .ok (.nx [some S, some t3', none, none, none, none, none, none, none]) ⟨0, []⟩ := by kernel_rfl
  have c3 : exS (tab.en fuel 13) (hd (tl (tl b0))) [some S, some t3', none, none, none, none, none, none, none] ⟨0, []⟩ = .ok (.nx [some S, some t3', none, none, none, none, none, none, none]) ⟨0, []⟩ := by kernel_rfl
  show exSs (tab.en fuel 13) (.cons (hd b0) (.cons (hd (tl b0)) (.cons (hd (tl (tl b0))) _))) _ _ = _
  rw [exSs_nx c1, exSs_nx c2, exSs_nx c3]
theorem cells_ok (ns : List Int) (hl : ns.length ≤ 63) (Γ : En) (σ : Sig) (h : IH) : ∃ xs, evI Γ (.val (.slc (.bin .Add (.var 0) (.lst false (.cons (.cst (.int 0)) .nil))) .none (.some (.cst (.int 5))))) (some (scriptD ns) :: σ) h = .ok xs h ∧ ∀ x ∈ xs, ∃ c : Int, x = .int c := by
  refine ⟨cutD (ns.map D.int ++ [.int 0]) none (some 5), ?_, fun x hx => ?_⟩
  · have e1 : mkL false [.int 0] h = .ok (.lst [.int 0]) h := rfl
    have e2 : binD .Add (scriptD ns) (.lst [.int 0]) h = .ok (.lst (ns.map D.int ++ [.int 0])) h := by
      simp only [binD, scriptD, lstOf, mkL, Bool.false_eq_true, if_false]
      rw [if_pos]
      rw [List.length_append, List.length_map, List.length_singleton, sizeLine_eq]
      omega
    simp only [evI, evE, evEs, evO, bd_ok, List.getElem?_cons_zero, e1, e2, slcD, lstOf, freeze, itemsOf]
  · rcases List.mem_append.mp (mem_cut hx) with z | z
    · obtain ⟨c, _, rfl⟩ := List.mem_map.mp z
      exact ⟨c, rfl⟩
    · exact ⟨0, List.mem_singleton.mp z⟩
theorem table_ok {i : Nat} (hi : i < 7) (S : SrcOk k (48 * (i : Int)) h) (ht : t ∈ TT) (n : Nat) : ∃ b5 b6 b8 h', exSs (tab.en fuel (n + 6)) l0_1 [a0, a1, some t, a3, some (.ref k), a5, a6, a7, a8] h = .ok (.nx [a0, a1, some t, a3, some (.ref k), b5, b6, a7, b8]) h' ∧ SrcOk k (48 * ((i + 1 : Nat) : Int)) h' := by
  have hI : evI (tab.en fuel (n + 6)) (.rng1 (.cst (.int 6))) [a0, a1, some t, a3, some (.ref k), a5, a6, a7, a8] h = .ok (rangeD 0 6) h := by
    simp only [evI, evE, bd_ok, range1]
    rfl
  obtain ⟨σ', h', e, ⟨b5, b6, b8, rfl⟩, S'⟩ := for_idx (t := .nm 5) (b := l0_0) hI (fun j σ h => (∃ b5 b6 b8, σ = [a0, a1, some t, a3, some (.ref k), b5, b6, a7, b8]) ∧ SrcOk k (48 * (i : Int) + 8 * (j : Int)) h) ⟨⟨_, _, _, rfl⟩, by simpa using S⟩ (by
    rintro j x hx σ h0 ⟨⟨b5, b6, b8, rfl⟩, S0⟩
    have lj : j < 6 := by
      have := (List.getElem?_eq_some_iff.mp hx).1
      rwa [range_len] at this
    obtain ⟨c6, c8, h2, e2, S2⟩ := turn_ok (a0 := a0) (a1 := a1) (a3 := a3) (a5 := some x) (a6 := b6) (a7 := a7) (a8 := b8) S0 (by omega) ht n
    exact ⟨_, _, h2, rfl, e2, ⟨_, _, _, rfl⟩, S2.mono (by omega)⟩)
  refine ⟨b5, b6, b8, h', ?_, S'.mono (by rw [range_len]; omega)⟩
  have e1 : exS (tab.en fuel (n + 6)) s0_0 [a0, a1, some t, a3, some (.ref k), a5, a6, a7, a8] h = .ok (.nx [a0, a1, some t, a3, some (.ref k), b5, b6, a7, b8]) h' := e
  simp only [l0_1, exSs, e1, bd_ok]
theorem cell_ok (c : Int) (n : Nat) (a2 a4 : Option D) : ∃ σ' h', exSs (tab.en fuel (n + 6)) l0_2 [a0, a1, a2, some (.int c), a4, a5, a6, a7, a8] h = .ok (.nx σ') h' ∧ ∃ b2 b3 b4 b5 b6 b7 b8, σ' = [a0, a1, b2, b3, b4, b5, b6, b7, b8] := by
  obtain ⟨h1, e1, S1⟩ := source_ok c (n + 5) h
  have e1' : tab.run fuel (n + 6) 15 [.int c] h = .ok (.ref h.n) h1 := e1
  have hI : evI (tab.en fuel (n + 6)) (.val (.bin .Add (.call 16 .nil) (.call 14 .nil))) [a0, a1, a2, some (.int c), some (.ref h.n), a5, a6, a7, a8] h1 = .ok TT h1 := by
    have q1 : tab.run fuel (n + 6) 16 [] h1 = .ok (.lst [t0, t1, t2, t3, t0]) h1 := tables_ok (n + 4) h1
    have q2 : tab.run fuel (n + 6) 14 [] h1 = .ok (.lst [t4, t5]) h1 := skew_ok (n + 5) h1
    have q3 : binD .Add (.lst [t0, t1, t2, t3, t0]) (.lst [t4, t5]) h1 = .ok (.lst TT) h1 := rfl
    simp only [evI, evE, evEs, bd_ok, en_call, q1, q2, q3, freeze, itemsOf]
  obtain ⟨σ', h', e, ⟨b2, b5, b6, b8, rfl⟩, _⟩ := for_idx (t := .nm 2) (b := l0_1) hI (fun i σ h0 => (∃ b2 b5 b6 b8, σ = [a0, a1, b2, some (.int c), some (.ref h.n), b5, b6, a7, b8]) ∧ SrcOk h.n (48 * (i : Int)) h0) ⟨⟨_, _, _, _, rfl⟩, by simpa using S1⟩ (by
    rintro i t hx σ h0 ⟨⟨b2, b5, b6, b8, rfl⟩, S0⟩
    have li : i < 7 := (List.getElem?_eq_some_iff.mp hx).1
    have ht : t ∈ TT := List.mem_of_getElem? hx
    obtain ⟨c5, c6, c8, h2, e2, S2⟩ := table_ok (a0 := a0) (a1 := a1) (a3 := some (.int c)) (a5 := b5) (a6 := b6) (a7 := a7) (a8 := b8) li S0 ht n
    exact ⟨_, _, h2, rfl, e2, ⟨_, _, _, _, rfl⟩, S2⟩)
  refine ⟨[a0, a1, b2, some (.int c), some (.ref h.n), b5, b6, a7, b8], h', ?_, b2, some (.int c), some (.ref h.n), b5, b6, a7, b8, rfl⟩
  · have e2 : exS (tab.en fuel (n + 6)) s0_1 [a0, a1, a2, some (.int c), some (.ref h.n), a5, a6, a7, a8] h1 = .ok (.nx [a0, a1, b2, some (.int c), some (.ref h.n), b5, b6, a7, b8]) h' := e
    simp only [l0_2, exSs, exS, evE, evEs, bd_ok, List.getElem?_cons_zero, List.getElem?_cons_succ, en_call, e1', asg_ok, List.set_cons_succ, List.set_cons_zero, e2]
end
def dep : Nat := 14
theorem plain : ∀ ns : List Int, ns.length ≤ 63 → ∃ h', tab.run fuel dep 0 [scriptD ns] ⟨0, []⟩ = .ok (.bl true) h' := by
  intro ns hl
  show ∃ h', tab.run fuel (13 + 1) 0 [scriptD ns] ⟨0, []⟩ = _
  rw [runI (fn := f0.fn) rfl rfl rfl]
  show ∃ h', endF (exSs (tab.en fuel 13) b0 [some (scriptD ns), none, none, none, none, none, none, none, none] ⟨0, []⟩) = _
  rw [head_ok]
  obtain ⟨xs, eI, hx⟩ := cells_ok ns hl (tab.en fuel 13) [some t3', none, none, none, none, none, none, none] ⟨0, []⟩
  obtain ⟨σ', h', e, _⟩ := for_idx (t := .nm 3) (b := l0_2) eI (fun i σ h => ∃ b2 b3 b4 b5 b6 b7 b8, σ = [some (scriptD ns), some t3', b2, b3, b4, b5, b6, b7, b8]) ⟨_, _, _, _, _, _, _, rfl⟩ (by
    rintro i x hxi σ h0 ⟨b2, b3, b4, b5, b6, b7, b8, rfl⟩
    obtain ⟨c, rfl⟩ := hx x (List.mem_of_getElem? hxi)
    obtain ⟨σ2, h2, e2, p2⟩ := cell_ok (h := h0) (a0 := some (scriptD ns)) (a1 := some t3') (a5 := b5) (a6 := b6) (a7 := b7) (a8 := b8) c 7 b2 b4
    exact ⟨_, _, h2, rfl, e2, p2⟩)
  have e1 : exS (tab.en fuel 13) s0_2 [some (scriptD ns), some t3', none, none, none, none, none, none, none] ⟨0, []⟩ = .ok (.nx σ') h' := e
  exact ⟨h', by rw [exSs_nx e1]; rfl⟩
end K02

namespace K02
open PySem PySem.Spec PyProof.Rows L2 VI
theorem chk : tab.F.all (chkF tab) = true := by decide +kernel
section
variable {K : Fg} {mg : Str → Option Value} {h : Heap} {w : World}
theorem tabok (X : K.In h) (G : h.Ns mainGlobals mg)
    {p0 : Addr} {od0 an0 : Option Addr} {sl0 : Array (Option Value)} {oc0 kV0 dc0 pm0 cd0 ct0 : Value}
    (a0 : PySem.W.nsIn K mainGlobals "law" = some (some (.ref p0)))
    (l0 : K.lookup p0 = some ⟨oc0, od0, .func (PySem.W.fnOf "law" "law" (defArgs (top 40)) (defBody (top 40)) (defScope (top 40)) .none kV0 dc0 pm0 an0 cd0 ct0), sl0⟩)
    (c0 : PySem.W.codeIn K cd0 "law" = true) (k0 : PySem.W.keepIn K (.ref p0) = true)
    {p1 : Addr} {od1 an1 : Option Addr} {sl1 : Array (Option Value)} {oc1 kV1 dc1 pm1 cd1 ct1 : Value}
    (a1 : PySem.W.nsIn K mainGlobals "standard" = some (some (.ref p1)))
    (l1 : K.lookup p1 = some ⟨oc1, od1, .func (PySem.W.fnOf "standard" "standard" (defArgs (top 23)) (defBody (top 23)) (defScope (top 23)) .none kV1 dc1 pm1 an1 cd1 ct1), sl1⟩)
    (c1 : PySem.W.codeIn K cd1 "standard" = true) (k1 : PySem.W.keepIn K (.ref p1) = true)
    {p2 : Addr} {od2 an2 : Option Addr} {sl2 : Array (Option Value)} {oc2 kV2 dc2 pm2 cd2 ct2 : Value}
    (a2 : PySem.W.nsIn K mainGlobals "standard_join" = some (some (.ref p2)))
    (l2 : K.lookup p2 = some ⟨oc2, od2, .func (PySem.W.fnOf "standard_join" "standard_join" (defArgs (top 22)) (defBody (top 22)) (defScope (top 22)) .none kV2 dc2 pm2 an2 cd2 ct2), sl2⟩)
    (c2 : PySem.W.codeIn K cd2 "standard_join" = true) (k2 : PySem.W.keepIn K (.ref p2) = true)
    {p3 : Addr} {od3 an3 : Option Addr} {sl3 : Array (Option Value)} {oc3 kV3 dc3 pm3 cd3 ct3 : Value}
    (a3 : PySem.W.nsIn K mainGlobals "_law_usual" = some (some (.ref p3)))
    (l3 : K.lookup p3 = some ⟨oc3, od3, .func (PySem.W.fnOf "_law_usual" "_law_usual" (defArgs (top 34)) (defBody (top 34)) (defScope (top 34)) .none kV3 dc3 pm3 an3 cd3 ct3), sl3⟩)
    (c3 : PySem.W.codeIn K cd3 "_law_usual" = true) (k3 : PySem.W.keepIn K (.ref p3) = true)
    {p4 : Addr} {od4 an4 : Option Addr} {sl4 : Array (Option Value)} {oc4 kV4 dc4 pm4 cd4 ct4 : Value}
    (a4 : PySem.W.nsIn K mainGlobals "is_symmetric" = some (some (.ref p4)))
    (l4 : K.lookup p4 = some ⟨oc4, od4, .func (PySem.W.fnOf "is_symmetric" "is_symmetric" (defArgs (top 25)) (defBody (top 25)) (defScope (top 25)) .none kV4 dc4 pm4 an4 cd4 ct4), sl4⟩)
    (c4 : PySem.W.codeIn K cd4 "is_symmetric" = true) (k4 : PySem.W.keepIn K (.ref p4) = true)
    {p5 : Addr} {od5 an5 : Option Addr} {sl5 : Array (Option Value)} {oc5 kV5 dc5 pm5 cd5 ct5 : Value}
    (a5 : PySem.W.nsIn K mainGlobals "require_modes" = some (some (.ref p5)))
    (l5 : K.lookup p5 = some ⟨oc5, od5, .func (PySem.W.fnOf "require_modes" "require_modes" (defArgs (top 21)) (defBody (top 21)) (defScope (top 21)) .none kV5 dc5 pm5 an5 cd5 ct5), sl5⟩)
    (c5 : PySem.W.codeIn K cd5 "require_modes" = true) (k5 : PySem.W.keepIn K (.ref p5) = true)
    {p6 : Addr} {od6 an6 : Option Addr} {sl6 : Array (Option Value)} {oc6 kV6 dc6 pm6 cd6 ct6 : Value}
    (a6 : PySem.W.nsIn K mainGlobals "fault_of_modes" = some (some (.ref p6)))
    (l6 : K.lookup p6 = some ⟨oc6, od6, .func (PySem.W.fnOf "fault_of_modes" "fault_of_modes" (defArgs (top 20)) (defBody (top 20)) (defScope (top 20)) .none kV6 dc6 pm6 an6 cd6 ct6), sl6⟩)
    (c6 : PySem.W.codeIn K cd6 "fault_of_modes" = true) (k6 : PySem.W.keepIn K (.ref p6) = true)
    {p7 : Addr} {od7 an7 : Option Addr} {sl7 : Array (Option Value)} {oc7 kV7 dc7 pm7 cd7 ct7 : Value}
    (a7 : PySem.W.nsIn K mainGlobals "are_names" = some (some (.ref p7)))
    (l7 : K.lookup p7 = some ⟨oc7, od7, .func (PySem.W.fnOf "are_names" "are_names" (defArgs (top 12)) (defBody (top 12)) (defScope (top 12)) .none kV7 dc7 pm7 an7 cd7 ct7), sl7⟩)
    (c7 : PySem.W.codeIn K cd7 "are_names" = true) (k7 : PySem.W.keepIn K (.ref p7) = true)
    {p8 : Addr} {od8 an8 : Option Addr} {sl8 : Array (Option Value)} {oc8 kV8 dc8 pm8 cd8 ct8 : Value}
    (a8 : PySem.W.nsIn K mainGlobals "is_name" = some (some (.ref p8)))
    (l8 : K.lookup p8 = some ⟨oc8, od8, .func (PySem.W.fnOf "is_name" "is_name" (defArgs (top 11)) (defBody (top 11)) (defScope (top 11)) .none kV8 dc8 pm8 an8 cd8 ct8), sl8⟩)
    (c8 : PySem.W.codeIn K cd8 "is_name" = true) (k8 : PySem.W.keepIn K (.ref p8) = true)
    {p9 : Addr} {od9 an9 : Option Addr} {sl9 : Array (Option Value)} {oc9 kV9 dc9 pm9 cd9 ct9 : Value}
    (a9 : PySem.W.nsIn K mainGlobals "are_allowed" = some (some (.ref p9)))
    (l9 : K.lookup p9 = some ⟨oc9, od9, .func (PySem.W.fnOf "are_allowed" "are_allowed" (defArgs (top 14)) (defBody (top 14)) (defScope (top 14)) .none kV9 dc9 pm9 an9 cd9 ct9), sl9⟩)
    (c9 : PySem.W.codeIn K cd9 "are_allowed" = true) (k9 : PySem.W.keepIn K (.ref p9) = true)
    {p10 : Addr} {od10 an10 : Option Addr} {sl10 : Array (Option Value)} {oc10 kV10 dc10 pm10 cd10 ct10 : Value}
    (a10 : PySem.W.nsIn K mainGlobals "is_row_of" = some (some (.ref p10)))
    (l10 : K.lookup p10 = some ⟨oc10, od10, .func (PySem.W.fnOf "is_row_of" "is_row_of" (defArgs (top 13)) (defBody (top 13)) (defScope (top 13)) .none kV10 dc10 pm10 an10 cd10 ct10), sl10⟩)
    (c10 : PySem.W.codeIn K cd10 "is_row_of" = true) (k10 : PySem.W.keepIn K (.ref p10) = true)
    {p11 : Addr} {od11 an11 : Option Addr} {sl11 : Array (Option Value)} {oc11 kV11 dc11 pm11 cd11 ct11 : Value}
    (a11 : PySem.W.nsIn K mainGlobals "are_joins" = some (some (.ref p11)))
    (l11 : K.lookup p11 = some ⟨oc11, od11, .func (PySem.W.fnOf "are_joins" "are_joins" (defArgs (top 15)) (defBody (top 15)) (defScope (top 15)) .none kV11 dc11 pm11 an11 cd11 ct11), sl11⟩)
    (c11 : PySem.W.codeIn K cd11 "are_joins" = true) (k11 : PySem.W.keepIn K (.ref p11) = true)
    {p12 : Addr} {od12 an12 : Option Addr} {sl12 : Array (Option Value)} {oc12 kV12 dc12 pm12 cd12 ct12 : Value}
    (a12 : PySem.W.nsIn K mainGlobals "is_exact" = some (some (.ref p12)))
    (l12 : K.lookup p12 = some ⟨oc12, od12, .func (PySem.W.fnOf "is_exact" "is_exact" (defArgs (top 19)) (defBody (top 19)) (defScope (top 19)) .none kV12 dc12 pm12 an12 cd12 ct12), sl12⟩)
    (c12 : PySem.W.codeIn K cd12 "is_exact" = true) (k12 : PySem.W.keepIn K (.ref p12) = true)
    {p13 : Addr} {od13 an13 : Option Addr} {sl13 : Array (Option Value)} {oc13 kV13 dc13 pm13 cd13 ct13 : Value}
    (a13 : PySem.W.nsIn K mainGlobals "all_joins" = some (some (.ref p13)))
    (l13 : K.lookup p13 = some ⟨oc13, od13, .func (PySem.W.fnOf "all_joins" "all_joins" (defArgs (top 18)) (defBody (top 18)) (defScope (top 18)) .none kV13 dc13 pm13 an13 cd13 ct13), sl13⟩)
    (c13 : PySem.W.codeIn K cd13 "all_joins" = true) (k13 : PySem.W.keepIn K (.ref p13) = true)
    {p14 : Addr} {od14 an14 : Option Addr} {sl14 : Array (Option Value)} {oc14 kV14 dc14 pm14 cd14 ct14 : Value}
    (a14 : PySem.W.nsIn K mainGlobals "_law_skew" = some (some (.ref p14)))
    (l14 : K.lookup p14 = some ⟨oc14, od14, .func (PySem.W.fnOf "_law_skew" "_law_skew" (defArgs (top 36)) (defBody (top 36)) (defScope (top 36)) .none kV14 dc14 pm14 an14 cd14 ct14), sl14⟩)
    (c14 : PySem.W.codeIn K cd14 "_law_skew" = true) (k14 : PySem.W.keepIn K (.ref p14) = true)
    {p15 : Addr} {od15 an15 : Option Addr} {sl15 : Array (Option Value)} {oc15 kV15 dc15 pm15 cd15 ct15 : Value}
    (a15 : PySem.W.nsIn K mainGlobals "_law_source" = some (some (.ref p15)))
    (l15 : K.lookup p15 = some ⟨oc15, od15, .func (PySem.W.fnOf "_law_source" "_law_source" (defArgs (top 31)) (defBody (top 31)) (defScope (top 31)) .none kV15 dc15 pm15 an15 cd15 ct15), sl15⟩)
    (c15 : PySem.W.codeIn K cd15 "_law_source" = true) (k15 : PySem.W.keepIn K (.ref p15) = true)
    {p16 : Addr} {od16 an16 : Option Addr} {sl16 : Array (Option Value)} {oc16 kV16 dc16 pm16 cd16 ct16 : Value}
    (a16 : PySem.W.nsIn K mainGlobals "_law_tables" = some (some (.ref p16)))
    (l16 : K.lookup p16 = some ⟨oc16, od16, .func (PySem.W.fnOf "_law_tables" "_law_tables" (defArgs (top 35)) (defBody (top 35)) (defScope (top 35)) .none kV16 dc16 pm16 an16 cd16 ct16), sl16⟩)
    (c16 : PySem.W.codeIn K cd16 "_law_tables" = true) (k16 : PySem.W.keepIn K (.ref p16) = true)
    {p17 : Addr} {od17 an17 : Option Addr} {sl17 : Array (Option Value)} {oc17 kV17 dc17 pm17 cd17 ct17 : Value}
    (a17 : PySem.W.nsIn K mainGlobals "_law_pick" = some (some (.ref p17)))
    (l17 : K.lookup p17 = some ⟨oc17, od17, .func (PySem.W.fnOf "_law_pick" "_law_pick" (defArgs (top 33)) (defBody (top 33)) (defScope (top 33)) .none kV17 dc17 pm17 an17 cd17 ct17), sl17⟩)
    (c17 : PySem.W.codeIn K cd17 "_law_pick" = true) (k17 : PySem.W.keepIn K (.ref p17) = true)
    {p18 : Addr} {od18 an18 : Option Addr} {sl18 : Array (Option Value)} {oc18 kV18 dc18 pm18 cd18 ct18 : Value}
    (a18 : PySem.W.nsIn K mainGlobals "_law_take" = some (some (.ref p18)))
    (l18 : K.lookup p18 = some ⟨oc18, od18, .func (PySem.W.fnOf "_law_take" "_law_take" (defArgs (top 32)) (defBody (top 32)) (defScope (top 32)) .none kV18 dc18 pm18 an18 cd18 ct18), sl18⟩)
    (c18 : PySem.W.codeIn K cd18 "_law_take" = true) (k18 : PySem.W.keepIn K (.ref p18) = true)
    {p19 : Addr} {od19 an19 : Option Addr} {sl19 : Array (Option Value)} {oc19 kV19 dc19 pm19 cd19 ct19 : Value}
    (a19 : PySem.W.nsIn K mainGlobals "_law_mixed" = some (some (.ref p19)))
    (l19 : K.lookup p19 = some ⟨oc19, od19, .func (PySem.W.fnOf "_law_mixed" "_law_mixed" (defArgs (top 30)) (defBody (top 30)) (defScope (top 30)) .none kV19 dc19 pm19 an19 cd19 ct19), sl19⟩)
    (c19 : PySem.W.codeIn K cd19 "_law_mixed" = true) (k19 : PySem.W.keepIn K (.ref p19) = true)
    {p20 : Addr} {od20 an20 : Option Addr} {sl20 : Array (Option Value)} {oc20 kV20 dc20 pm20 cd20 ct20 : Value}
    (a20 : PySem.W.nsIn K mainGlobals "joined" = some (some (.ref p20)))
    (l20 : K.lookup p20 = some ⟨oc20, od20, .func (PySem.W.fnOf "joined" "joined" (defArgs (top 27)) (defBody (top 27)) (defScope (top 27)) .none kV20 dc20 pm20 an20 cd20 ct20), sl20⟩)
    (c20 : PySem.W.codeIn K cd20 "joined" = true) (k20 : PySem.W.keepIn K (.ref p20) = true)
    {p21 : Addr} {od21 an21 : Option Addr} {sl21 : Array (Option Value)} {oc21 kV21 dc21 pm21 cd21 ct21 : Value}
    (a21 : PySem.W.nsIn K mainGlobals "require_some" = some (some (.ref p21)))
    (l21 : K.lookup p21 = some ⟨oc21, od21, .func (PySem.W.fnOf "require_some" "require_some" (defArgs (top 26)) (defBody (top 26)) (defScope (top 26)) .none kV21 dc21 pm21 an21 cd21 ct21), sl21⟩)
    (c21 : PySem.W.codeIn K cd21 "require_some" = true) (k21 : PySem.W.keepIn K (.ref p21) = true)
    {p22 : Addr} {od22 an22 : Option Addr} {sl22 : Array (Option Value)} {oc22 kV22 dc22 pm22 cd22 ct22 : Value}
    (a22 : PySem.W.nsIn K mainGlobals "require_mode" = some (some (.ref p22)))
    (l22 : K.lookup p22 = some ⟨oc22, od22, .func (PySem.W.fnOf "require_mode" "require_mode" (defArgs (top 24)) (defBody (top 24)) (defScope (top 24)) .none kV22 dc22 pm22 an22 cd22 ct22), sl22⟩)
    (c22 : PySem.W.codeIn K cd22 "require_mode" = true) (k22 : PySem.W.keepIn K (.ref p22) = true)
    {p23 : Addr} {od23 an23 : Option Addr} {sl23 : Array (Option Value)} {oc23 kV23 dc23 pm23 cd23 ct23 : Value}
    (a23 : PySem.W.nsIn K mainGlobals "join" = some (some (.ref p23)))
    (l23 : K.lookup p23 = some ⟨oc23, od23, .func (PySem.W.fnOf "join" "join" (defArgs (top 16)) (defBody (top 16)) (defScope (top 16)) .none kV23 dc23 pm23 an23 cd23 ct23), sl23⟩)
    (c23 : PySem.W.codeIn K cd23 "join" = true) (k23 : PySem.W.keepIn K (.ref p23) = true)
    {p24 : Addr} {od24 an24 : Option Addr} {sl24 : Array (Option Value)} {oc24 kV24 dc24 pm24 cd24 ct24 : Value}
    (a24 : PySem.W.nsIn K mainGlobals "_law_joined" = some (some (.ref p24)))
    (l24 : K.lookup p24 = some ⟨oc24, od24, .func (PySem.W.fnOf "_law_joined" "_law_joined" (defArgs (top 38)) (defBody (top 38)) (defScope (top 38)) .none kV24 dc24 pm24 an24 cd24 ct24), sl24⟩)
    (c24 : PySem.W.codeIn K cd24 "_law_joined" = true) (k24 : PySem.W.keepIn K (.ref p24) = true)
    {p25 : Addr} {od25 an25 : Option Addr} {sl25 : Array (Option Value)} {oc25 kV25 dc25 pm25 cd25 ct25 : Value}
    (a25 : PySem.W.nsIn K mainGlobals "_law_join" = some (some (.ref p25)))
    (l25 : K.lookup p25 = some ⟨oc25, od25, .func (PySem.W.fnOf "_law_join" "_law_join" (defArgs (top 37)) (defBody (top 37)) (defScope (top 37)) .none kV25 dc25 pm25 an25 cd25 ct25), sl25⟩)
    (c25 : PySem.W.codeIn K cd25 "_law_join" = true) (k25 : PySem.W.keepIn K (.ref p25) = true)
    {p26 : Addr} {od26 an26 : Option Addr} {sl26 : Array (Option Value)} {oc26 kV26 dc26 pm26 cd26 ct26 : Value}
    (a26 : PySem.W.nsIn K mainGlobals "may_stand" = some (some (.ref p26)))
    (l26 : K.lookup p26 = some ⟨oc26, od26, .func (PySem.W.fnOf "may_stand" "may_stand" (defArgs (top 28)) (defBody (top 28)) (defScope (top 28)) .none kV26 dc26 pm26 an26 cd26 ct26), sl26⟩)
    (c26 : PySem.W.codeIn K cd26 "may_stand" = true) (k26 : PySem.W.keepIn K (.ref p26) = true)
    {p27 : Addr} {od27 an27 : Option Addr} {sl27 : Array (Option Value)} {oc27 kV27 dc27 pm27 cd27 ct27 : Value}
    (a27 : PySem.W.nsIn K mainGlobals "allows" = some (some (.ref p27)))
    (l27 : K.lookup p27 = some ⟨oc27, od27, .func (PySem.W.fnOf "allows" "allows" (defArgs (top 17)) (defBody (top 17)) (defScope (top 17)) .none kV27 dc27 pm27 an27 cd27 ct27), sl27⟩)
    (c27 : PySem.W.codeIn K cd27 "allows" = true) (k27 : PySem.W.keepIn K (.ref p27) = true)
    {p28 : Addr} {od28 an28 : Option Addr} {sl28 : Array (Option Value)} {oc28 kV28 dc28 pm28 cd28 ct28 : Value}
    (a28 : PySem.W.nsIn K mainGlobals "_law_stands" = some (some (.ref p28)))
    (l28 : K.lookup p28 = some ⟨oc28, od28, .func (PySem.W.fnOf "_law_stands" "_law_stands" (defArgs (top 39)) (defBody (top 39)) (defScope (top 39)) .none kV28 dc28 pm28 an28 cd28 ct28), sl28⟩)
    (c28 : PySem.W.codeIn K cd28 "_law_stands" = true) (k28 : PySem.W.keepIn K (.ref p28) = true)
    {ug0 : Value} (g0 : PySem.W.nsIn K mainGlobals "STANDARD_NAMES" = some (some ug0)) (r0 : readK K 12 ug0 = some (.gt [(.str "is"), (.str "ix"), (.str "s"), (.str "u"), (.str "six"), (.str "x")]))
    {ug1 : Value} (g1 : PySem.W.nsIn K mainGlobals "MAX_MODES" = some (some ug1)) (r1 : readK K 12 ug1 = some (.int 6))
    {ug2 : Value} (g2 : PySem.W.nsIn K mainGlobals "LETTERS" = some (some ug2)) (r2 : readK K 12 ug2 = some (.str "abcdefghijklmnopqrstuvwxyz"))
    {ug3 : Value} (g3 : PySem.W.nsIn K mainGlobals "MAX_LETTERS" = some (some ug3)) (r3 : readK K 12 ug3 = some (.int 12))
    (z0 : PySem.W.nsIn K mainGlobals "abs" = some none)
    (z1 : PySem.W.nsIn K mainGlobals "all" = some none)
    (z2 : PySem.W.nsIn K mainGlobals "enumerate" = some none)
    (z3 : PySem.W.nsIn K mainGlobals "int" = some none)
    (z4 : PySem.W.nsIn K mainGlobals "isinstance" = some none)
    (z5 : PySem.W.nsIn K mainGlobals "len" = some none)
    (z6 : PySem.W.nsIn K mainGlobals "list" = some none)
    (z7 : PySem.W.nsIn K mainGlobals "range" = some none)
    (z8 : PySem.W.nsIn K mainGlobals "repr" = some none)
    (z9 : PySem.W.nsIn K mainGlobals "set" = some none)
    (z10 : PySem.W.nsIn K mainGlobals "sorted" = some none)
    (z11 : PySem.W.nsIn K mainGlobals "str" = some none)
    (z12 : PySem.W.nsIn K mainGlobals "tuple" = some none)
    {pd0 : Addr} {es0 : Array DictEntry} {nd0 : Nat} (d0 : PySem.W.nsIn K mainGlobals "STANDARD_TOGETHER" = some (some (.ref pd0))) (e0 : K.lookup pd0 = some ⟨.type "dict", none, .dict es0 nd0, #[]⟩) (t0 : PySem.W.KeysLit w.params es0.toList)
    {u0_5 : Value} (n0_5 : PySem.W.nsIn K pd0 "x" = some (some u0_5)) (s0_5 : readK K 12 u0_5 = some (.gt []))
    {u0_4 : Value} (n0_4 : PySem.W.nsIn K pd0 "six" = some (some u0_4)) (s0_4 : readK K 12 u0_4 = some (.gt [(.str "is")]))
    {u0_3 : Value} (n0_3 : PySem.W.nsIn K pd0 "u" = some (some u0_3)) (s0_3 : readK K 12 u0_3 = some (.gt [(.str "is"), (.str "s")]))
    {u0_2 : Value} (n0_2 : PySem.W.nsIn K pd0 "s" = some (some u0_2)) (s0_2 : readK K 12 u0_2 = some (.gt [(.str "is"), (.str "s"), (.str "u")]))
    {u0_1 : Value} (n0_1 : PySem.W.nsIn K pd0 "ix" = some (some u0_1)) (s0_1 : readK K 12 u0_1 = some (.gt [(.str "is"), (.str "ix")]))
    {u0_0 : Value} (n0_0 : PySem.W.nsIn K pd0 "is" = some (some u0_0)) (s0_0 : readK K 12 u0_0 = some (.gt [(.str "is"), (.str "ix"), (.str "s"), (.str "u"), (.str "six")]))
    {pd1 : Addr} {es1 : Array DictEntry} {nd1 : Nat} (d1 : PySem.W.nsIn K mainGlobals "STANDARD_ABOVE" = some (some (.ref pd1))) (e1 : K.lookup pd1 = some ⟨.type "dict", none, .dict es1 nd1, #[]⟩) (t1 : PySem.W.KeysLit w.params es1.toList)
    {u1_4 : Value} (n1_4 : PySem.W.nsIn K pd1 "six" = some (some u1_4)) (s1_4 : readK K 12 u1_4 = some (.gt [(.str "is"), (.str "ix"), (.str "s"), (.str "u")]))
    {u1_3 : Value} (n1_3 : PySem.W.nsIn K pd1 "u" = some (some u1_3)) (s1_3 : readK K 12 u1_3 = some (.gt [(.str "is"), (.str "s")]))
    {u1_2 : Value} (n1_2 : PySem.W.nsIn K pd1 "s" = some (some u1_2)) (s1_2 : readK K 12 u1_2 = some (.gt [(.str "is")]))
    {u1_1 : Value} (n1_1 : PySem.W.nsIn K pd1 "ix" = some (some u1_1)) (s1_1 : readK K 12 u1_1 = some (.gt [(.str "is")]))
    {u1_0 : Value} (n1_0 : PySem.W.nsIn K pd1 "is" = some (some u1_0)) (s1_0 : readK K 12 u1_0 = some (.gt []))
    : TabOk tab w K mg := by
  refine ⟨fun f t ht => ?_, ?_, ?_, ?_⟩
  · match f, ht with
    | 0, ht => obtain rfl : f0 = t := Option.some.inj ht; exact has_mk X G a0 l0 c0 k0 (fun us hl => match us, hl with | [_], _ => rfl) (fun q hq => nomatch hq)
    | 1, ht => obtain rfl : f1 = t := Option.some.inj ht; exact has_mk X G a1 l1 c1 k1 (fun us hl => match us, hl with | [], _ => rfl) (fun q hq => nomatch hq)
    | 2, ht => obtain rfl : f2 = t := Option.some.inj ht; exact has_mk X G a2 l2 c2 k2 (fun us hl => match us, hl with | [_, _], _ => rfl) (fun q hq => nomatch hq)
    | 3, ht => obtain rfl : f3 = t := Option.some.inj ht; exact has_mk X G a3 l3 c3 k3 (fun us hl => match us, hl with | [], _ => rfl) (fun q hq => nomatch hq)
    | 4, ht => obtain rfl : f4 = t := Option.some.inj ht; exact has_mk X G a4 l4 c4 k4 (fun us hl => match us, hl with | [_], _ => rfl) (List.forall_mem_cons.mpr ⟨fun us ws h1 h2 => match us, ws, h1, h2 with | [], [_], _, _ => rfl, (fun q hq => nomatch hq)⟩)
    | 5, ht => obtain rfl : f5 = t := Option.some.inj ht; exact has_mk X G a5 l5 c5 k5 (fun us hl => match us, hl with | [_], _ => rfl) (fun q hq => nomatch hq)
    | 6, ht => obtain rfl : f6 = t := Option.some.inj ht; exact has_mk X G a6 l6 c6 k6 (fun us hl => match us, hl with | [_], _ => rfl) (fun q hq => nomatch hq)
    | 7, ht => obtain rfl : f7 = t := Option.some.inj ht; exact has_mk X G a7 l7 c7 k7 (fun us hl => match us, hl with | [_, _], _ => rfl) (fun q hq => nomatch hq)
    | 8, ht => obtain rfl : f8 = t := Option.some.inj ht; exact has_mk X G a8 l8 c8 k8 (fun us hl => match us, hl with | [_], _ => rfl) (fun q hq => nomatch hq)
    | 9, ht => obtain rfl : f9 = t := Option.some.inj ht; exact has_mk X G a9 l9 c9 k9 (fun us hl => match us, hl with | [_, _], _ => rfl) (fun q hq => nomatch hq)
    | 10, ht => obtain rfl : f10 = t := Option.some.inj ht; exact has_mk X G a10 l10 c10 k10 (fun us hl => match us, hl with | [_, _, _], _ => rfl) (fun q hq => nomatch hq)
    | 11, ht => obtain rfl : f11 = t := Option.some.inj ht; exact has_mk X G a11 l11 c11 k11 (fun us hl => match us, hl with | [_, _], _ => rfl) (fun q hq => nomatch hq)
    | 12, ht => obtain rfl : f12 = t := Option.some.inj ht; exact has_mk X G a12 l12 c12 k12 (fun us hl => match us, hl with | [_], _ => rfl) (fun q hq => nomatch hq)
    | 13, ht => obtain rfl : f13 = t := Option.some.inj ht; exact has_mk X G a13 l13 c13 k13 (fun us hl => match us, hl with | [_], _ => rfl) (fun q hq => nomatch hq)
    | 14, ht => obtain rfl : f14 = t := Option.some.inj ht; exact has_mk X G a14 l14 c14 k14 (fun us hl => match us, hl with | [], _ => rfl) (fun q hq => nomatch hq)
    | 15, ht => obtain rfl : f15 = t := Option.some.inj ht; exact has_mk X G a15 l15 c15 k15 (fun us hl => match us, hl with | [_], _ => rfl) (fun q hq => nomatch hq)
    | 16, ht => obtain rfl : f16 = t := Option.some.inj ht; exact has_mk X G a16 l16 c16 k16 (fun us hl => match us, hl with | [], _ => rfl) (fun q hq => nomatch hq)
    | 17, ht => obtain rfl : f17 = t := Option.some.inj ht; exact has_mk X G a17 l17 c17 k17 (fun us hl => match us, hl with | [_, _], _ => rfl) (fun q hq => nomatch hq)
    | 18, ht => obtain rfl : f18 = t := Option.some.inj ht; exact has_mk X G a18 l18 c18 k18 (fun us hl => match us, hl with | [_, _], _ => rfl) (fun q hq => nomatch hq)
    | 19, ht => obtain rfl : f19 = t := Option.some.inj ht; exact has_mk X G a19 l19 c19 k19 (fun us hl => match us, hl with | [_, _], _ => rfl) (fun q hq => nomatch hq)
    | 20, ht => obtain rfl : f20 = t := Option.some.inj ht; exact has_mk X G a20 l20 c20 k20 (fun us hl => match us, hl with | [_, _], _ => rfl) (List.forall_mem_cons.mpr ⟨fun us ws h1 h2 => match us, ws, h1, h2 with | [], [_, _], _, _ => rfl, (fun q hq => nomatch hq)⟩)
    | 21, ht => obtain rfl : f21 = t := Option.some.inj ht; exact has_mk X G a21 l21 c21 k21 (fun us hl => match us, hl with | [_, _], _ => rfl) (fun q hq => nomatch hq)
    | 22, ht => obtain rfl : f22 = t := Option.some.inj ht; exact has_mk X G a22 l22 c22 k22 (fun us hl => match us, hl with | [_, _], _ => rfl) (fun q hq => nomatch hq)
    | 23, ht => obtain rfl : f23 = t := Option.some.inj ht; exact has_mk X G a23 l23 c23 k23 (fun us hl => match us, hl with | [_, _, _], _ => rfl) (fun q hq => nomatch hq)
    | 24, ht => obtain rfl : f24 = t := Option.some.inj ht; exact has_mk X G a24 l24 c24 k24 (fun us hl => match us, hl with | [_, _], _ => rfl) (fun q hq => nomatch hq)
    | 25, ht => obtain rfl : f25 = t := Option.some.inj ht; exact has_mk X G a25 l25 c25 k25 (fun us hl => match us, hl with | [_, _, _], _ => rfl) (fun q hq => nomatch hq)
    | 26, ht => obtain rfl : f26 = t := Option.some.inj ht; exact has_mk X G a26 l26 c26 k26 (fun us hl => match us, hl with | [_, _], _ => rfl) (List.forall_mem_cons.mpr ⟨fun us ws h1 h2 => match us, ws, h1, h2 with | [], [_, _], _, _ => rfl, (fun q hq => nomatch hq)⟩)
    | 27, ht => obtain rfl : f27 = t := Option.some.inj ht; exact has_mk X G a27 l27 c27 k27 (fun us hl => match us, hl with | [_, _, _], _ => rfl) (fun q hq => nomatch hq)
    | 28, ht => obtain rfl : f28 = t := Option.some.inj ht; exact has_mk X G a28 l28 c28 k28 (fun us hl => match us, hl with | [_, _], _ => rfl) (fun q hq => nomatch hq)
    | n + 29, ht => cases ht
  · exact (List.forall_mem_cons.mpr ⟨gl_mk X G g0 12 r0, (List.forall_mem_cons.mpr ⟨gl_mk X G g1 12 r1, (List.forall_mem_cons.mpr ⟨gl_mk X G g2 12 r2, (List.forall_mem_cons.mpr ⟨gl_mk X G g3 12 r3, (fun q hq => nomatch hq)⟩)⟩)⟩)⟩)
  · exact (List.forall_mem_cons.mpr ⟨PySem.W.mg_none_of X G z0, (List.forall_mem_cons.mpr ⟨PySem.W.mg_none_of X G z1, (List.forall_mem_cons.mpr ⟨PySem.W.mg_none_of X G z2, (List.forall_mem_cons.mpr ⟨PySem.W.mg_none_of X G z3, (List.forall_mem_cons.mpr ⟨PySem.W.mg_none_of X G z4, (List.forall_mem_cons.mpr ⟨PySem.W.mg_none_of X G z5, (List.forall_mem_cons.mpr ⟨PySem.W.mg_none_of X G z6, (List.forall_mem_cons.mpr ⟨PySem.W.mg_none_of X G z7, (List.forall_mem_cons.mpr ⟨PySem.W.mg_none_of X G z8, (List.forall_mem_cons.mpr ⟨PySem.W.mg_none_of X G z9, (List.forall_mem_cons.mpr ⟨PySem.W.mg_none_of X G z10, (List.forall_mem_cons.mpr ⟨PySem.W.mg_none_of X G z11, (List.forall_mem_cons.mpr ⟨PySem.W.mg_none_of X G z12, (fun q hq => nomatch hq)⟩)⟩)⟩)⟩)⟩)⟩)⟩)⟩)⟩)⟩)⟩)⟩)⟩)
  · exact (List.forall_mem_cons.mpr ⟨gd_mk X G d0 e0 t0 12 (List.forall_mem_cons.mpr ⟨by rw [n0_0]; exact s0_0, (List.forall_mem_cons.mpr ⟨by rw [n0_1]; exact s0_1, (List.forall_mem_cons.mpr ⟨by rw [n0_2]; exact s0_2, (List.forall_mem_cons.mpr ⟨by rw [n0_3]; exact s0_3, (List.forall_mem_cons.mpr ⟨by rw [n0_4]; exact s0_4, (List.forall_mem_cons.mpr ⟨by rw [n0_5]; exact s0_5, (fun q hq => nomatch hq)⟩)⟩)⟩)⟩)⟩)⟩), (List.forall_mem_cons.mpr ⟨gd_mk X G d1 e1 t1 12 (List.forall_mem_cons.mpr ⟨by rw [n1_0]; exact s1_0, (List.forall_mem_cons.mpr ⟨by rw [n1_1]; exact s1_1, (List.forall_mem_cons.mpr ⟨by rw [n1_2]; exact s1_2, (List.forall_mem_cons.mpr ⟨by rw [n1_3]; exact s1_3, (List.forall_mem_cons.mpr ⟨by rw [n1_4]; exact s1_4, (fun q hq => nomatch hq)⟩)⟩)⟩)⟩)⟩), (fun q hq => nomatch hq)⟩)⟩)
end
end K02
open PySem PySem.W PyProof.Rows
set_option maxRecDepth 100000 in
set_option maxHeartbeats 0 in
theorem PySem.Challenge.cw_stuckrows_k02_usual_modes_and_joins_holds : PySem.Challenge.rw_stuckrows_k02_usual_modes_and_joins.Holds := by
  w_on; o_law; k_head; (case hw => w_witness2)
  k_fill
  refine VI.law_walk (T := K02.tab) (fuel := K02.fuel) (dep := K02.dep) (l := PySem.Challenge.rw_stuckrows_k02_usual_modes_and_joins) rfl (by decide) rfl ⟨rfl, by decide, by decide⟩ (fun w h Y => PySem.W.kIn_of Y) rfl rfl rfl K02.chk ?O K02.plain
  case O =>
    intro w mg h KX G
    refine' K02.tabok KX G ?vva0 ?vvl0 ?vvc0 ?vvk0 ?vva1 ?vvl1 ?vvc1 ?vvk1 ?vva2 ?vvl2 ?vvc2 ?vvk2 ?vva3 ?vvl3 ?vvc3 ?vvk3 ?vva4 ?vvl4 ?vvc4 ?vvk4 ?vva5 ?vvl5 ?vvc5 ?vvk5 ?vva6 ?vvl6 ?vvc6 ?vvk6 ?vva7 ?vvl7 ?vvc7 ?vvk7 ?vva8 ?vvl8 ?vvc8 ?vvk8 ?vva9 ?vvl9 ?vvc9 ?vvk9 ?vva10 ?vvl10 ?vvc10 ?vvk10 ?vva11 ?vvl11 ?vvc11 ?vvk11 ?vva12 ?vvl12 ?vvc12 ?vvk12 ?vva13 ?vvl13 ?vvc13 ?vvk13 ?vva14 ?vvl14 ?vvc14 ?vvk14 ?vva15 ?vvl15 ?vvc15 ?vvk15 ?vva16 ?vvl16 ?vvc16 ?vvk16 ?vva17 ?vvl17 ?vvc17 ?vvk17 ?vva18 ?vvl18 ?vvc18 ?vvk18 ?vva19 ?vvl19 ?vvc19 ?vvk19 ?vva20 ?vvl20 ?vvc20 ?vvk20 ?vva21 ?vvl21 ?vvc21 ?vvk21 ?vva22 ?vvl22 ?vvc22 ?vvk22 ?vva23 ?vvl23 ?vvc23 ?vvk23 ?vva24 ?vvl24 ?vvc24 ?vvk24 ?vva25 ?vvl25 ?vvc25 ?vvk25 ?vva26 ?vvl26 ?vvc26 ?vvk26 ?vva27 ?vvl27 ?vvc27 ?vvk27 ?vva28 ?vvl28 ?vvc28 ?vvk28 ?vvg0 ?vvr0 ?vvg1 ?vvr1 ?vvg2 ?vvr2 ?vvg3 ?vvr3 ?vvz0 ?vvz1 ?vvz2 ?vvz3 ?vvz4 ?vvz5 ?vvz6 ?vvz7 ?vvz8 ?vvz9 ?vvz10 ?vvz11 ?vvz12 ?vvd0 ?vve0 ?vvt0 ?vvn0_5 ?vvs0_5 ?vvn0_4 ?vvs0_4 ?vvn0_3 ?vvs0_3 ?vvn0_2 ?vvs0_2 ?vvn0_1 ?vvs0_1 ?vvn0_0 ?vvs0_0 ?vvd1 ?vve1 ?vvt1 ?vvn1_4 ?vvs1_4 ?vvn1_3 ?vvs1_3 ?vvn1_2 ?vvs1_2 ?vvn1_1 ?vvs1_1 ?vvn1_0 ?vvs1_0
    (case vva0 => k_is)
    (case vvl0 => k_is)
    (case vvc0 => k_is)
    (case vvk0 => k_is)
    (case vva1 => k_is)
    (case vvl1 => k_is)
    (case vvc1 => k_is)
    (case vvk1 => k_is)
    (case vva2 => k_is)
    (case vvl2 => k_is)
    (case vvc2 => k_is)
    (case vvk2 => k_is)
    (case vva3 => k_is)
    (case vvl3 => k_is)
    (case vvc3 => k_is)
    (case vvk3 => k_is)
    (case vva4 => k_is)
    (case vvl4 => k_is)
    (case vvc4 => k_is)
    (case vvk4 => k_is)
    (case vva5 => k_is)
    (case vvl5 => k_is)
    (case vvc5 => k_is)
    (case vvk5 => k_is)
    (case vva6 => k_is)
    (case vvl6 => k_is)
    (case vvc6 => k_is)
    (case vvk6 => k_is)
    (case vva7 => k_is)
    (case vvl7 => k_is)
    (case vvc7 => k_is)
    (case vvk7 => k_is)
    (case vva8 => k_is)
    (case vvl8 => k_is)
    (case vvc8 => k_is)
    (case vvk8 => k_is)
    (case vva9 => k_is)
    (case vvl9 => k_is)
    (case vvc9 => k_is)
    (case vvk9 => k_is)
    (case vva10 => k_is)
    (case vvl10 => k_is)
    (case vvc10 => k_is)
    (case vvk10 => k_is)
    (case vva11 => k_is)
    (case vvl11 => k_is)
    (case vvc11 => k_is)
    (case vvk11 => k_is)
    (case vva12 => k_is)
    (case vvl12 => k_is)
    (case vvc12 => k_is)
    (case vvk12 => k_is)
    (case vva13 => k_is)
    (case vvl13 => k_is)
    (case vvc13 => k_is)
    (case vvk13 => k_is)
    (case vva14 => k_is)
    (case vvl14 => k_is)
    (case vvc14 => k_is)
    (case vvk14 => k_is)
    (case vva15 => k_is)
    (case vvl15 => k_is)
    (case vvc15 => k_is)
    (case vvk15 => k_is)
    (case vva16 => k_is)
    (case vvl16 => k_is)
    (case vvc16 => k_is)
    (case vvk16 => k_is)
    (case vva17 => k_is)
    (case vvl17 => k_is)
    (case vvc17 => k_is)
    (case vvk17 => k_is)
    (case vva18 => k_is)
    (case vvl18 => k_is)
    (case vvc18 => k_is)
    (case vvk18 => k_is)
    (case vva19 => k_is)
    (case vvl19 => k_is)
    (case vvc19 => k_is)
    (case vvk19 => k_is)
    (case vva20 => k_is)
    (case vvl20 => k_is)
    (case vvc20 => k_is)
    (case vvk20 => k_is)
    (case vva21 => k_is)
    (case vvl21 => k_is)
    (case vvc21 => k_is)
    (case vvk21 => k_is)
    (case vva22 => k_is)
    (case vvl22 => k_is)
    (case vvc22 => k_is)
    (case vvk22 => k_is)
    (case vva23 => k_is)
    (case vvl23 => k_is)
    (case vvc23 => k_is)
    (case vvk23 => k_is)
    (case vva24 => k_is)
    (case vvl24 => k_is)
    (case vvc24 => k_is)
    (case vvk24 => k_is)
    (case vva25 => k_is)
    (case vvl25 => k_is)
    (case vvc25 => k_is)
    (case vvk25 => k_is)
    (case vva26 => k_is)
    (case vvl26 => k_is)
    (case vvc26 => k_is)
    (case vvk26 => k_is)
    (case vva27 => k_is)
    (case vvl27 => k_is)
    (case vvc27 => k_is)
    (case vvk27 => k_is)
    (case vva28 => k_is)
    (case vvl28 => k_is)
    (case vvc28 => k_is)
    (case vvk28 => k_is)
    (case vvg0 => k_is)
    (case vvr0 => kernel_rfl)
    (case vvg1 => k_is)
    (case vvr1 => kernel_rfl)
    (case vvg2 => k_is)
    (case vvr2 => kernel_rfl)
    (case vvg3 => k_is)
    (case vvr3 => kernel_rfl)
    (case vvz0 => k_is)
    (case vvz1 => k_is)
    (case vvz2 => k_is)
    (case vvz3 => k_is)
    (case vvz4 => k_is)
    (case vvz5 => k_is)
    (case vvz6 => k_is)
    (case vvz7 => k_is)
    (case vvz8 => k_is)
    (case vvz9 => k_is)
    (case vvz10 => k_is)
    (case vvz11 => k_is)
    (case vvz12 => k_is)
    (case vvd0 => k_is)
    (case vve0 => k_is)
    (case vvt0 => repeat (first | exact trivial | refine ⟨⟨_, _, rfl, rfl⟩, ?_⟩))
    (case vvn0_5 => k_is)
    (case vvs0_5 => kernel_rfl)
    (case vvn0_4 => k_is)
    (case vvs0_4 => kernel_rfl)
    (case vvn0_3 => k_is)
    (case vvs0_3 => kernel_rfl)
    (case vvn0_2 => k_is)
    (case vvs0_2 => kernel_rfl)
    (case vvn0_1 => k_is)
    (case vvs0_1 => kernel_rfl)
    (case vvn0_0 => k_is)
    (case vvs0_0 => kernel_rfl)
    (case vvd1 => k_is)
    (case vve1 => k_is)
    (case vvt1 => repeat (first | exact trivial | refine ⟨⟨_, _, rfl, rfl⟩, ?_⟩))
    (case vvn1_4 => k_is)
    (case vvs1_4 => kernel_rfl)
    (case vvn1_3 => k_is)
    (case vvs1_3 => kernel_rfl)
    (case vvn1_2 => k_is)
    (case vvs1_2 => kernel_rfl)
    (case vvn1_1 => k_is)
    (case vvs1_1 => kernel_rfl)
    (case vvn1_0 => k_is)
    (case vvs1_0 => kernel_rfl)
