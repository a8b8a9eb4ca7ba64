import PyProof.Rows.All
import Wide.All
import OpenK.AllK
import Wide.FinOn
import HandS.ForMost
import HandS.ForExc
import HandS.TupLe
import HandS.TupAny
import HandS.TupMul
import HandS.Wide
import HandS.IsInst
import HandS.Deep
import HandS.Flow
import HandS.HeadHook1
import HandS.ExcCtx
import HandS.Conv
import HandS.Iter
import HandS.Comp
import HandS.TryOnly
import HandS.Defaults
import HandS.HeadHook4
import KE.KExcSuper
import KE.KSuper
import HandS.ExcInit
import KE.KExcIs
import HandS.HotCalls
import HandS.ExcField
import KE.KStateDown
import HandS.Head0
import HandS.Head1
import HandS.Head2
import HandS.HeadEnd
import HandS.HeadHook2
import HandS.HeadHook3
import PySem.Challenge.RW_gradatim_k76_machines_and_falls
import HandS.ExcIs
set_option Elab.async false
set_option linter.all false
set_option maxRecDepth 100000
/-! MiA: plain data, the mini interpreter over the text (semantics only). -/
namespace Mi
open PySem

/-! ### data -/
inductive D where
  | non | bl (b : Bool) | int (i : Int) | str (s : Str) | tup (ds : List D) | lst (ds : List D) | dct (kvs : List (Str × D)) | obj (n : Nat)
  deriving Inhabited
inductive Sl where
  | no | fz (d : D) | ow (d : D)
abbrev Env := List Sl
inductive Ob where
  | lst (ds : List D) | frz (ds : List D) | ins (C : Str) (fs : List (Str × D))
abbrev Sto := List Ob
structure Xn where
  cls : Str
  flds : Option (List (Str × D))
inductive Res (α : Type) where
  | ok (a : α) (T : Sto) | ex (x : Xn) (T : Sto) | bad
@[inline] def Res.bind {α β : Type} (r : Res α) (f : α → Sto → Res β) : Res β := match r with
  | .ok a T => f a T
  | .ex x T => .ex x T
  | .bad => .bad
abbrev EM (α : Type) := Env → Sto → Res α
def EM.pure {α : Type} (a : α) : EM α := fun _ T => .ok a T
def EM.bind {α β : Type} (m : EM α) (f : α → EM β) : EM β := fun σ T => (m σ T).bind fun a T1 => f a σ T1
def EM.bad {α : Type} : EM α := fun _ _ => .bad
def EM.lift {α : Type} (o : Option α) : EM α := fun _ T => match o with
  | some a => .ok a T
  | none => .bad

/-! ### sizes -/
def fits (n : Nat) : Bool := decide (n ≤ 16777216)

/-! ### equality, order, truth -/
mutual
def D.py : D → PyData
  | .non => .none
  | .bl b => .bool b
  | .int i => .int i
  | .str s => .str s
  | .tup ds => .tuple (D.pys ds)
  | .lst ds => .list (D.pys ds)
  | .dct _ => .dict []
  | .obj _ => .dict []
def D.pys : List D → List PyData
  | [] => []
  | d :: ds => d.py :: D.pys ds
end
mutual
/-- made of none, bools, ints, texts, tuples, lists -/
def D.plain : D → Bool
  | .str x => PySem.PyData.strOk x
  | .dct _ => false
  | .obj _ => false
  | .tup ds => D.plains ds
  | .lst ds => D.plains ds
  | _ => true
def D.plains : List D → Bool
  | [] => true
  | d :: ds => d.plain && D.plains ds
end
mutual
def D.deep : D → Nat
  | .tup ds => D.deeps ds + 1
  | .lst ds => D.deeps ds + 1
  | _ => 0
def D.deeps : List D → Nat
  | [] => 0
  | d :: ds => max d.deep (D.deeps ds)
end
def D.eqv (a b : D) : Bool := PyData.eqv a.py b.py
/-- a == b, where it is told -/
def eqD (a b : D) : Option Bool := match a, b with
  | .str x, .str y => some (decide (x = y))
  | .int i, .int j => some (decide (i = j))
  | a, b => if a.plain && b.plain && decide (min a.deep b.deep ≤ 190) then some (a.eqv b) else none
/-- which order: of two that are not equal -/
inductive Od where
  | lt | le | gt | ge
  deriving DecidableEq
def Od.onInt : Od → Int → Int → Bool
  | .lt, i, j => decide (i < j)
  | .le, i, j => decide (i ≤ j)
  | .gt, i, j => decide (j < i)
  | .ge, i, j => decide (j ≤ i)
def Od.onNat : Od → Nat → Nat → Bool
  | .lt, i, j => decide (i < j)
  | .le, i, j => decide (i ≤ j)
  | .gt, i, j => decide (j < i)
  | .ge, i, j => decide (j ≤ i)
def Od.onStr : Od → Str → Str → Bool
  | .lt, i, j => decide (i.cps.toList < j.cps.toList)
  | .le, i, j => !decide (j.cps.toList < i.cps.toList)
  | .gt, i, j => decide (j.cps.toList < i.cps.toList)
  | .ge, i, j => !decide (i.cps.toList < j.cps.toList)
/-- a < b (and the others), where it is told: ints, texts -/
def ordD (o : Od) : D → D → Option Bool
  | .int i, .int j => some (o.onInt i j)
  | .str x, .str y => some (o.onStr x y)
  | _, _ => none
def D.truth : D → Bool
  | .non => false
  | .bl b => b
  | .int i => i != 0
  | .str s => (s.length : Int) != 0
  | .tup ds => !ds.isEmpty
  | .lst ds => !ds.isEmpty
  | .dct kvs => !kvs.isEmpty
  | .obj _ => true
/-- the truth where it is told -/
def truD : D → Option Bool
  | .obj _ => none
  | .dct _ => none
  | .str s => if fits s.length then some ((s.length : Int) != 0) else none
  | d => some d.truth


/-! ### operators -/
def rep (n : Nat) (ds : List D) : List D := (List.replicate n ds).flatten
def repS (n : Nat) (s : Str) : Str := ⟨(List.replicate n s.cps.toList).flatten.toArray⟩
def binD : Operator → D → D → Option D
  | .Add, .int i, .int j => some (.int (i + j))
  | .Add, .str x, .str y => if fits (x.length + y.length) then some (.str (x ++ y)) else none
  | .Add, .tup xs, .tup ys => if fits (xs.length + ys.length) then some (.tup (xs ++ ys)) else none
  | .Add, .lst xs, .lst ys => if fits (xs.length + ys.length) then some (.lst (xs ++ ys)) else none
  | .Sub, .int i, .int j => some (.int (i - j))
  | .Mult, .int i, .int j => if decide (i.natAbs.log2 + j.natAbs.log2 < 1000000) then some (.int (i * j)) else none
  | .Mult, .tup xs, .int j => if !xs.isEmpty && decide (xs.length ≤ 1000) && decide (2 ≤ j) && decide (j ≤ 1000) then some (.tup (rep j.toNat xs)) else none
  | .Mult, .lst xs, .int j => if decide (-(2 ^ 63) ≤ j) && decide (j < 2 ^ 63) && fits (xs.length * j.toNat) then some (.lst (rep j.toNat xs)) else none
  | .FloorDiv, .int i, .int j => if decide (0 < j) && decide (j.natAbs.log2 < 9000) then some (.int (i / j)) else none
  | .Mod, .int i, .int j => if decide (0 < j) then some (.int (i % j)) else none
  | .Pow, .int i, .int j => if decide (0 ≤ j) && decide (j ≤ 1000000) && decide (i.natAbs < 18446744073709551616) then some (.int (i ^ j.toNat)) else none
  | _, _, _ => none
def lenD : D → Option Nat
  | .str s => if fits s.length then some s.length else none
  | .tup ds => some ds.length
  | .lst ds => some ds.length
  | _ => none
/-- the place that an index means -/
def ixD (n : Nat) (i : Int) : Option Nat := if 0 ≤ i then (if i < n then some i.toNat else none) else if -(n : Int) ≤ i then some (i + n).toNat else none
def itemD : D → D → Option D
  | .tup ds, .int i => (ixD ds.length i).bind fun j => ds[j]?
  | .lst ds, .int i => (ixD ds.length i).bind fun j => ds[j]?
  | .str s, .int i => if fits s.length then (ixD s.length i).bind fun j => s.cps.toList[j]?.map fun c => .str ⟨#[c]⟩ else none
  | _, _ => none
def cutL {α : Type} (xs : List α) (lo hi : Option Int) : List α := (xs.drop (HT.sIx xs.length 0 lo)).take (HT.sIx xs.length xs.length hi - HT.sIx xs.length 0 lo)
def sliceD : D → Option Int → Option Int → Option D
  | .tup ds, lo, hi => some (.tup (cutL ds lo hi))
  | .lst ds, lo, hi => some (.lst (cutL ds lo hi))
  | .str s, lo, hi => if fits s.length then some (.str ⟨(cutL s.cps.toList lo hi).toArray⟩) else none
  | _, _, _ => none
def backD : D → Option D
  | .lst ds => some (.lst ds.reverse)
  | .tup ds => some (.tup ds.reverse)
  | _ => none
/-- no tuple, no list -/
def D.flat : D → Bool
  | .non => true
  | .bl _ => true
  | .int _ => true
  | .str _ => true
  | _ => false
/-- x in c -/
def memD (x : D) (ds : List D) : Option Bool :=
  if ds.all D.flat && x.flat then some (ds.any fun y => y.eqv x)
  else if D.plains ds && x.plain && decide (x.deep ≤ 190) then some (ds.any fun y => y.eqv x) else none
def inD (x : D) : D → Option Bool
  | .tup ds => memD x ds
  | .lst ds => memD x ds
  | .str s => match x with
    | .str z => (match z.cps.toList with
      | [c] => some (decide (c ∈ s.cps.toList))
      | _ => none)
    | _ => none
  | _ => none
def isD (x y : D) : Option Bool := match x, y with
  | x, .non => some (match x with | .non => true | _ => false)
  | .bl a, .bl b => some (decide (a = b))
  | _, _ => none
def cmpD : CmpOp → D → D → Option Bool
  | .Eq, a, b => eqD a b
  | .NotEq, a, b => (eqD a b).map (!·)
  | .Lt, a, b => ordD .lt a b
  | .LtE, a, b => ordD .le a b
  | .Gt, a, b => ordD .gt a b
  | .GtE, a, b => ordD .ge a b
  | .In, a, b => inD a b
  | .NotIn, a, b => (inD a b).map (!·)
  | .Is, a, b => isD a b
  | .IsNot, a, b => (isD a b).map (!·)
end Mi


set_option Elab.async false
set_option linter.all false
set_option maxRecDepth 100000
/-! MiB: the mini interpreter: expressions and statements over the text. -/
namespace Mi
open PySem

/-! ### what is fixed -/
/-- a frame's names and its scope -/
structure Fi where
  N : List Str
  sc : Scope
  fn : Str → Bool
/-- the module: its functions, its constants, the locals that hold store objects, per row the locals whose owned lists are frozen there -/
structure Gi where
  fn : List Str
  cst : List (Str × D)
  ref : List Str
  frz : List (Nat × List Str)
abbrev CallT := Str → List D → Sto → Res (D × Bool)
def visB (sc : Scope) (x : Str) : Bool := match sc.names.lookup x with
  | some .local => true
  | some .cell => true
  | some .free => true
  | _ => false
def locB (sc : Scope) (x : Str) : Bool := match sc.names.lookup x with
  | some .local => true
  | some .cell => true
  | _ => false
def isGl (sc : Scope) (x : Str) : Bool := match sc.names.lookup x with
  | some .globalImplicit => true
  | _ => false
def ixOf (x : Str) : List Str → Option Nat
  | [] => none
  | y :: ys => if y = x then some 0 else (ixOf x ys).map (· + 1)
def slot (F : Fi) (x : Str) : Option Nat := if visB F.sc x then ixOf x F.N else none
def slotL (F : Fi) (x : Str) : Option Nat := if locB F.sc x && (F.fn x || decide (F.sc.names.lookup x = some .local)) then ixOf x F.N else none
def isDbg (x : Str) : Bool := decide (x = ("__debug__" : Str)) || decide (x = ("__classdict__" : Str)) || decide (x = ("__name__" : Str))

/-! ### expressions -/
structure Dn where
  val : Fi → Expr → EM (D × Bool)
  tst : Fi → Expr → EM Bool
def vVar (i : Nat) : EM (D × Bool) := fun σ T => match σ[i]? with
  | some (.fz d) => .ok (d, false) T
  | _ => .bad
def pVar (i : Nat) : EM D := fun σ T => match σ[i]? with
  | some (.fz d) => .ok d T
  | some (.ow d) => .ok d T
  | _ => .bad
def vE (R : Dn) (F : Fi) (e : Expr) : EM D := EM.bind (R.val F e) fun d => EM.pure d.1
/-- only looked at -/
def pE (R : Dn) (F : Fi) (e : Expr) : EM D := match e with
  | .Name x _ => if isDbg x then EM.bad else match slot F x with
    | some i => pVar i
    | none => vE R F e
  | _ => vE R F e
def notStar : Expr → Bool
  | .Starred _ _ => false
  | _ => true
def notSlice : Expr → Bool
  | .Slice _ _ _ _ => false
  | _ => true
def aL (R : Dn) (F : Fi) : List Expr → EM (List D)
  | [] => EM.pure []
  | e :: es => EM.bind (vE R F e) fun d => EM.bind (aL R F es) fun ds => EM.pure (d :: ds)
def aE (R : Dn) (F : Fi) (es : List Expr) : EM (List D) := if es.all notStar then aL R F es else EM.bad
def tAll (R : Dn) (F : Fi) : List Expr → EM Bool
  | [] => EM.pure true
  | e :: es => EM.bind (R.tst F e) fun b => if b then tAll R F es else EM.pure false
def tAny (R : Dn) (F : Fi) : List Expr → EM Bool
  | [] => EM.pure false
  | e :: es => EM.bind (R.tst F e) fun b => if b then EM.pure true else tAny R F es
/-- a and b .., a or b .. as values -/
def vAnd (R : Dn) (F : Fi) : List Expr → EM (D × Bool)
  | [] => EM.bad
  | [e] => EM.bind (vE R F e) fun d => EM.pure (d, false)
  | e :: es => EM.bind (vE R F e) fun d => EM.bind (EM.lift (truD d)) fun b => if b then vAnd R F es else EM.pure (d, false)
def vOr (R : Dn) (F : Fi) : List Expr → EM (D × Bool)
  | [] => EM.bad
  | [e] => EM.bind (vE R F e) fun d => EM.pure (d, false)
  | e :: es => EM.bind (vE R F e) fun d => EM.bind (EM.lift (truD d)) fun b => if b then EM.pure (d, false) else vOr R F es
def cM (R : Dn) (F : Fi) (op : CmpOp) (a b : Expr) : EM Bool := EM.bind (pE R F a) fun x => EM.bind (pE R F b) fun y => EM.lift (cmpD op x y)
def notSet : Expr → Bool
  | .Set _ _ _ => false
  | _ => true
def c2M (R : Dn) (F : Fi) (op op2 : CmpOp) (a b c : Expr) : EM Bool := EM.bind (pE R F a) fun x => EM.bind (pE R F b) fun y => EM.bind (EM.lift (cmpD op x y)) fun k =>
  if k then EM.bind (pE R F c) fun z => EM.lift (cmpD op2 y z) else EM.pure false
/-- which class: a built-in's name -/
def isiD (T : Str) (d : D) : Option Bool :=
  if T = ("int" : Str) then some (match d with | .int _ => true | .bl _ => true | _ => false)
  else if T = ("bool" : Str) then some (match d with | .bl _ => true | _ => false)
  else if T = ("str" : Str) then some (match d with | .str _ => true | _ => false)
  else if T = ("tuple" : Str) then some (match d with | .tup _ => true | _ => false)
  else if T = ("list" : Str) then some (match d with | .lst _ => true | _ => false)
  else none
def isiNames : List Str := ["int", "bool", "str", "tuple", "list"]
def noObj : D → Bool
  | .obj _ => false
  | _ => true
/-- the item of a value or of a store object -/
def itemM (x i : D) : EM D := fun _ T => match x with
  | .obj n => (match T[n]? with
    | some (.lst ds) => (match itemD (.lst ds) i with
      | some d => .ok d T
      | none => .bad)
    | _ => .bad)
  | x => (match itemD x i with
    | some d => .ok d T
    | none => .bad)
def lenM (x : D) : EM D := fun _ T => match x with
  | .obj n => (match T[n]? with
    | some (.lst ds) => .ok (.int ds.length) T
    | _ => .bad)
  | x => (match lenD x with
    | some k => .ok (.int k) T
    | none => .bad)
/-- an optional part of a slice -/
def oE (R : Dn) (F : Fi) : Option Expr → EM (Option Int)
  | none => EM.pure none
  | some e => EM.bind (vE R F e) fun d => match d with
    | .int i => EM.pure (some i)
    | _ => EM.bad
def isLst : D → Bool
  | .lst _ => true
  | _ => false
def chars (s : Str) : List D := s.cps.toList.map fun c => .str ⟨#[c]⟩
def boolsOf : List D → Option (List Bool)
  | [] => some []
  | .bl b :: ds => (boolsOf ds).map (b :: ·)
  | _ :: _ => none
def intsOf : List D → Option (List Int)
  | [] => some []
  | .int i :: ds => (intsOf ds).map (i :: ·)
  | _ :: _ => none
/-- what is walked -/
def itemsD : D → Option (List D)
  | .lst ds => some ds
  | .tup ds => some ds
  | .str s => if fits s.length then some (chars s) else none
  | _ => none
def small62 (i : Int) : Bool := decide (-(4611686018427387904) ≤ i) && decide (i < 4611686018427387904)
def rangeD (lo : Int) (n : Nat) : List D := (List.range n).map fun (i : Nat) => D.int (lo + (i : Int))
def enumFrom (k : Nat) : List D → List D
  | [] => []
  | d :: ds => .tup [.int (k : Int), d] :: enumFrom (k + 1) ds
def itemsM (d : D) : EM (List D) := fun _ T => match d with
  | .obj n => (match T[n]? with
    | some (.frz ds) => .ok ds T
    | _ => .bad)
  | d => (match itemsD d with
    | some ds => .ok ds T
    | none => .bad)
def isTupE : Expr → Bool
  | .Tuple _ _ _ => true
  | _ => false
def itM (P : Fi → Expr → EM D) (R : Dn) (F : Fi) (tg e : Expr) : EM (List D) := match e with
  | .Call (.Name f _) [a] [] _ => if isGl F.sc f && notStar a && decide (f = ("range" : Str)) then
      EM.bind (vE R F a) fun d => match d with
        | .int j => if small62 j then EM.pure (rangeD 0 j.toNat) else EM.bad
        | _ => EM.bad
    else if isGl F.sc f && notStar a && decide (f = ("enumerate" : Str)) then (if isTupE tg then EM.bind (P F a) fun d => match d with
        | .lst ds => EM.pure (enumFrom 0 ds)
        | _ => EM.bad
      else EM.bad)
    else if isGl F.sc f && notStar a && decide (f = ("reversed" : Str)) then EM.bind (P F a) fun d => match d with
        | .lst ds => EM.pure ds.reverse
        | _ => EM.bad
    else EM.bind (P F e) fun d => itemsM d
  | .Call (.Name f _) [a, b] [] _ => if isGl F.sc f && notStar a && notStar b && decide (f = ("range" : Str)) then
      EM.bind (vE R F a) fun d => EM.bind (vE R F b) fun d2 => match d, d2 with
        | .int i, .int j => if small62 i && small62 j then EM.pure (rangeD i (j - i).toNat) else EM.bad
        | _, _ => EM.bad
    else EM.bind (P F e) fun d => itemsM d
  | e => EM.bind (P F e) fun d => itemsM d
/-- names as targets -/
def bindNs (F : Fi) : List Expr → List D → Env → Option Env
  | [], [], σ => some σ
  | .Name x _ :: ts, d :: ds, σ => (slotL F x).bind fun i => bindNs F ts ds (σ.set i (.fz d))
  | _, _, _ => none
def bindT (F : Fi) : Expr → D → Env → Option Env
  | .Name x _, d, σ => (slotL F x).map fun i => σ.set i (.fz d)
  | .Tuple ts _ _, .tup ds, σ => bindNs F ts ds σ
  | .Tuple ts _ _, .lst ds, σ => bindNs F ts ds σ
  | _, _, _ => none
/-- the slots of targets -/
def slotsNs (F : Fi) : List Expr → List Nat
  | [] => []
  | .Name x _ :: ts => (match slotL F x with | some i => [i] | none => []) ++ slotsNs F ts
  | _ :: ts => slotsNs F ts
def slotsT (F : Fi) : Expr → List Nat
  | .Name x _ => (match slotL F x with | some i => [i] | none => [])
  | .Tuple ts _ _ => slotsNs F ts
  | _ => []
def wipeE (σ : Env) : List Nat → Env
  | [] => σ
  | v :: vs => (wipeE σ vs).set v .no
/-- the names of a comprehension's block with their slots -/
def ownOf (N : List Str) (scope : Scope) : List (Str × Nat) := scope.names.filterMap fun (n, k) => match k with
  | .local => (ixOf n N).map fun i => (n, i)
  | .cell => (ixOf n N).map fun i => (n, i)
  | _ => none
def Res.noex {α : Type} : Res α → Res α
  | .ok a T => .ok a T
  | .ex _ _ => .bad
  | .bad => .bad
def lcLoop (tg : D → Env → Option Env) (tst : EM Bool) (el : EM D) (σ : Env) : List D → List D → Sto → Res (List D)
  | [], acc, T => .ok acc T
  | d :: ds, acc, T => match tg d σ with
    | none => .bad
    | some σ1 => (tst σ1 T).noex.bind fun b T1 => if b then (el σ1 T1).noex.bind fun y T2 => if decide (acc.length < 16777216) then lcLoop tg tst el σ ds (acc ++ [y]) T2 else .bad else lcLoop tg tst el σ ds acc T1
def ifsE (R : Dn) (F : Fi) : List Expr → EM Bool
  | [] => EM.pure true
  | [c] => R.tst F c
  | _ => EM.bad
def lcE (R : Dn) (F : Fi) (elt tg iter : Expr) (ifs : List Expr) (scope : Scope) : EM (D × Bool) :=
  if L2.blkC F.N F.sc scope (ownOf F.N scope) && (slotsT ⟨F.N, L2.relS scope F.sc, fun x => scope.names.lookup x == some .cell⟩ tg).all (fun i => (ownOf F.N scope).any fun p => p.2 == i) && notSet iter then
    EM.bind (itM (pE R) R F tg iter) fun items σ T =>
      (lcLoop (bindT ⟨F.N, L2.relS scope F.sc, fun x => scope.names.lookup x == some .cell⟩ tg) (ifsE R ⟨F.N, L2.relS scope F.sc, fun x => scope.names.lookup x == some .cell⟩ ifs) (vE R ⟨F.N, L2.relS scope F.sc, fun x => scope.names.lookup x == some .cell⟩ elt) (wipeE σ ((ownOf F.N scope).map (·.2))) items [] T).bind fun ds T1 => .ok (.lst ds, true) T1
  else EM.bad

/-- built-ins on values that are only looked at -/
def bltD (f : Str) (ds : List D) : Option (D × Bool) :=
  if f = ("abs" : Str) then (match ds with
    | [.int i] => some (.int (if i < 0 then -i else i), false)
    | _ => none)
  else if f = ("int" : Str) then (match ds with
    | [.int i] => some (.int i, false)
    | [.bl b] => some (.int (if b then 1 else 0), false)
    | _ => none)
  else if f = ("bool" : Str) then (match ds with
    | [.int i] => some (.bl (i != 0), false)
    | [.bl b] => some (.bl b, false)
    | _ => none)
  else if f = ("tuple" : Str) then (match ds with
    | [.lst xs] => some (.tup xs, false)
    | [.tup xs] => some (.tup xs, false)
    | _ => none)
  else if f = ("all" : Str) then (match ds with
    | [.lst xs] => (boolsOf xs).map fun bs => (.bl (bs.all id), false)
    | _ => none)
  else if f = ("any" : Str) then (match ds with
    | [.lst xs] => (boolsOf xs).map fun bs => (.bl (bs.any id), false)
    | _ => none)
  else if f = ("sum" : Str) then (match ds with
    | [.lst xs] => (intsOf xs).map fun ns => (.int ns.sum, false)
    | _ => none)
  else none
def oneArg : List Str := ["abs", "int", "bool", "tuple", "all", "any", "sum"]
def listM (d : D) : EM (D × Bool) := fun _ T => match d with
  | .lst xs => .ok (.lst xs, true) T
  | .tup xs => .ok (.lst xs, true) T
  | .obj n => (match T[n]? with
    | some (.frz xs) => .ok (.lst xs, true) T
    | _ => .bad)
  | _ => .bad
def callE (G : Gi) (C : CallT) (R : Dn) (F : Fi) (f : Str) (args : List Expr) : EM (D × Bool) :=
  if isGl F.sc f && !isDbg f then
    (if f ∈ G.fn then (match args with
      | [] => EM.bad
      | args => EM.bind (aE R F args) fun ds _ T => C f ds T)
    else if f = ("isinstance" : Str) then (match args with
      | [x, .Name t _] => if isGl F.sc t && !isDbg t && decide (t ∈ isiNames) && notStar x then EM.bind (pE R F x) fun d => if noObj d then EM.bind (EM.lift (isiD t d)) fun b => EM.pure (.bl b, false) else EM.bad else EM.bad
      | _ => EM.bad)
    else if f = ("len" : Str) then (match args with
      | [x] => if notStar x then EM.bind (pE R F x) fun d => EM.bind (lenM d) fun k => EM.pure (k, false) else EM.bad
      | _ => EM.bad)
    else if f = ("list" : Str) then (match args with
      | [.Call (.Name r _) [a] [] _] => if decide (r = ("range" : Str)) && isGl F.sc r && notStar a then EM.bind (vE R F a) fun d => match d with
          | .int j => if small62 j && decide (j ≤ 16777216) then EM.pure (.lst (rangeD 0 j.toNat), true) else EM.bad
          | _ => EM.bad
        else EM.bad
      | [x] => if notStar x then EM.bind (pE R F x) fun d => listM d else EM.bad
      | _ => EM.bad)
    else if f ∈ oneArg then (match args with
      | [x] => if notStar x then EM.bind (pE R F x) fun d => EM.lift (bltD f [d]) else EM.bad
      | _ => EM.bad)
    else EM.bad)
  else EM.bad

def constD : Const → Option D
  | .none => some .non
  | .bool b => some (.bl b)
  | .int i => some (.int i)
  | .str s => some (.str s)
  | _ => none
def stepVal (G : Gi) (C : CallT) (R : Dn) (F : Fi) (e : Expr) : EM (D × Bool) := match e with
  | .Name x _ => if isDbg x then EM.bad else (match slot F x with
    | some i => vVar i
    | none => if isGl F.sc x then EM.bind (EM.lift (G.cst.lookup x)) fun d => EM.pure (d, false) else EM.bad)
  | .Constant c _ _ => EM.bind (EM.lift (constD c)) fun d => EM.pure (d, false)
  | .BinOp a op b _ => EM.bind (pE R F a) fun x => EM.bind (pE R F b) fun y => EM.bind (EM.lift (binD op x y)) fun d => EM.pure (d, isLst d)
  | .UnaryOp .USub a _ => EM.bind (vE R F a) fun x => match x with
    | .int i => EM.pure (.int (-i), false)
    | _ => EM.bad
  | .UnaryOp .Not a _ => EM.bind (pE R F a) fun x => EM.bind (EM.lift (truD x)) fun b => EM.pure (.bl (!b), false)
  | .BoolOp .And es _ => vAnd R F es
  | .BoolOp .Or es _ => vOr R F es
  | .Compare a [op] [b] _ => if notSet b then EM.bind (cM R F op a b) fun k => EM.pure (.bl k, false) else EM.bad
  | .Compare a [op, op2] [b, c] _ => if notSet c then EM.bind (c2M R F op op2 a b c) fun k => EM.pure (.bl k, false) else EM.bad
  | .IfExp c a b _ => EM.bind (R.tst F c) fun t => if t then R.val F a else R.val F b
  | .Tuple es _ _ => EM.bind (aE R F es) fun ds => if fits ds.length then EM.pure (.tup ds, false) else EM.bad
  | .List es _ => EM.bind (aE R F es) fun ds => if fits ds.length then EM.pure (.lst ds, true) else EM.bad
  | .Subscript a (.Slice lo hi none _) _ => EM.bind (pE R F a) fun x => EM.bind (oE R F lo) fun l => EM.bind (oE R F hi) fun h => EM.bind (EM.lift (sliceD x l h)) fun d => EM.pure (d, isLst d)
  | .Subscript a i _ => if notSlice i then EM.bind (pE R F a) fun x => EM.bind (vE R F i) fun j => EM.bind (itemM x j) fun d => EM.pure (d, false) else EM.bad
  | .ListComp elt [⟨tg, iter, ifs, 0⟩] scope _ => lcE R F elt tg iter ifs scope
  | .Call (.Name f _) args [] _ => callE G C R F f args
  | _ => EM.bad
def stepTst (G : Gi) (C : CallT) (R : Dn) (F : Fi) (e : Expr) : EM Bool := match e with
  | .BoolOp .And es _ => tAll R F es
  | .BoolOp .Or es _ => tAny R F es
  | .UnaryOp .Not a _ => EM.bind (R.tst F a) fun b => EM.pure (!b)
  | .Compare a [op] [b] _ => if notSet b then cM R F op a b else EM.bad
  | .Compare a [op, op2] [b, c] _ => if notSet c then c2M R F op op2 a b c else EM.bad
  | .Compare _ _ _ _ => EM.bad
  | .IfExp _ _ _ _ => EM.bad
  | .UnaryOp _ _ _ => EM.bad
  | e => EM.bind (pE R F e) fun x => EM.lift (truD x)
def dn (G : Gi) (C : CallT) : Nat → Dn
  | 0 => ⟨fun _ _ => EM.bad, fun _ _ => EM.bad⟩
  | n + 1 => ⟨stepVal G C (dn G C n), stepTst G C (dn G C n)⟩
end Mi
namespace Mi
open PySem
/-! ### statements -/
inductive RS where
  | nx (σ : Env) (T : Sto) | rt (d : D) (b : Bool) (T : Sto) | bk (σ : Env) (T : Sto) | ct (σ : Env) (T : Sto) | ex (x : Xn) (σ : Env) (T : Sto) | bad
abbrev SM := Env → Sto → RS
def Res.then_ {α : Type} (r : Res α) (σ : Env) (f : α → Sto → RS) : RS := match r with
  | .ok a T => f a T
  | .ex x T => .ex x σ T
  | .bad => .bad
def RS.seq (r : RS) (f : Env → Sto → RS) : RS := match r with
  | .nx σ T => f σ T
  | r => r
def frzS : Sl → Sl
  | .ow d => .fz d
  | s => s
/-- the named owned lists frozen -/
def frzNs (F : Fi) : List Str → Env → Env
  | [], σ => σ
  | x :: xs, σ => match slot F x with
    | some i => (match σ[i]? with
      | some s => frzNs F xs (σ.set i (frzS s))
      | none => frzNs F xs σ)
    | none => frzNs F xs σ
def frzE (G : Gi) (F : Fi) (l : Nat) (σ : Env) : Env := match G.frz.lookup l with
  | some xs => frzNs F xs σ
  | none => σ
/-- what a name gets; a name of G.ref gets a new store object -/
def put (G : Gi) (i : Nat) (x : Str) (d : D) (fl : Bool) : SM := fun σ T => if x ∈ G.ref then (match d, fl with
      | .lst ds, true => .nx (σ.set i (.fz (.obj T.length))) (T ++ [.lst ds])
      | _, _ => .bad)
    else .nx (σ.set i (if fl then .ow d else .fz d)) T
def withL (F : Fi) (x : Str) (f : Nat → SM) : SM := match slotL F x with
  | some i => f i
  | none => fun _ _ => .bad
def withS (F : Fi) (x : Str) (f : Nat → SM) : SM := match slot F x with
  | some i => f i
  | none => fun _ _ => .bad
/-- list methods that change an owned list -/
def mutD (m : Str) (xs : List D) (ds : List D) : Option (List D × D) :=
  if m = ("append" : Str) then (match ds with
    | [d] => if decide (xs.length < 16777216) then some (xs ++ [d], .non) else none
    | _ => none)
  else if m = ("extend" : Str) then (match ds with
    | [.lst ys] => if fits (xs.length + ys.length) then some (xs ++ ys, .non) else none
    | _ => none)
  else if m = ("pop" : Str) then (match ds with
    | [] => (match xs.getLast? with
      | some d => some (xs.dropLast, d)
      | none => none)
    | [.int i] => if small62 i then (ixD xs.length i).bind fun k => (xs[k]?).map fun d => (xs.eraseIdx k, d) else none
    | _ => none)
  else none
/-- y.m(ds), y an owned list -/
def mutV (F : Fi) (y m : Str) (ds : List D) (k : D → SM) : SM := fun σ T => match slot F y with
  | none => .bad
  | some i => (match σ[i]? with
    | some (.ow (.lst xs)) => (match mutD m xs ds with
      | some (ys, r) => k r (σ.set i (.ow (.lst ys))) T
      | none => .bad)
    | _ => .bad)
def isOw (F : Fi) (y : Str) (σ : Env) : Bool := match slot F y with
  | none => false
  | some i => (match σ[i]? with
    | some (.ow (.lst _)) => true
    | _ => false)
def mutM (R : Dn) (F : Fi) (y m : Str) (args : List Expr) (k : D → SM) : SM := fun σ T => if isOw F y σ then
    (if m = ("extend" : Str) then (match args with
      | [a] => (pE R F a σ T).then_ σ fun d T1 => mutV F y m [d] k σ T1
      | _ => .bad)
    else (aE R F args σ T).then_ σ fun ds T1 => mutV F y m ds k σ T1) else .bad
def isMut (m : Str) : Bool := decide (m = ("append" : Str)) || decide (m = ("extend" : Str)) || decide (m = ("pop" : Str))
def mutOk (y m : Str) (args : List Expr) (ap cp : Pos) : Bool := isMut m && !isDbg y && (ap.endLine == cp.line) && args.all notStar && decide (args.length < 30)
def isHere (k : Nat) (σ : Env) : Bool := match σ[k]? with
  | some (.ow _) => true
  | some (.fz _) => true
  | _ => false
/-- x[i] = d, x an owned list or a store object -/
def setM (k : Nat) (i d : D) : SM := fun σ T => match σ[k]? with
    | some (.ow (.lst xs)) => (match i with
      | .int j => (match ixD xs.length j with
        | some p => .nx (σ.set k (.ow (.lst (xs.set p d)))) T
        | none => .bad)
      | _ => .bad)
    | some (.fz (.obj n)) => (match T[n]?, i with
      | some (.lst xs), .int j => (match ixD xs.length j with
        | some p => .nx σ (T.set n (.lst (xs.set p d)))
        | none => .bad)
      | _, _ => .bad)
    | _ => .bad
def augD : Operator → D → D → Option D
  | .Add, .int i, .int j => some (.int (i + j))
  | .Add, .str x, .str y => if fits (x.length + y.length) then some (.str (x ++ y)) else none
  | .Sub, .int i, .int j => some (.int (i - j))
  | .Mult, .int i, .int j => if decide (-(18446744073709551616) < j) && decide (j < 18446744073709551616) then some (.int (i * j)) else none
  | _, _, _ => none
/-- exceptions by class: what raise X(..) makes, args looked at -/
structure Ei where
  mkX : Str → List D → Option Xn
  has : Str → Nat → Bool
def forLoop (tg : D → Env → Option Env) (body : SM) : List D → SM
  | [], σ, T => .nx σ T
  | d :: ds, σ, T => match tg d σ with
    | none => .bad
    | some σ1 => (match body σ1 T with
      | .nx σ2 T2 => forLoop tg body ds σ2 T2
      | .ct σ2 T2 => forLoop tg body ds σ2 T2
      | .bk σ2 T2 => .nx σ2 T2
      | .rt d b T2 => .rt d b T2
      | .ex x σ2 T2 => .ex x σ2 T2
      | .bad => .bad)
def whileLoop (c : EM Bool) (body : SM) : Nat → SM
  | 0, _, _ => .bad
  | n + 1, σ, T => (c σ T).then_ σ fun b T1 => if b then (match body σ T1 with
      | .nx σ2 T2 => whileLoop c body n σ2 T2
      | .ct σ2 T2 => whileLoop c body n σ2 T2
      | .bk σ2 T2 => .nx σ2 T2
      | .rt d b T2 => .rt d b T2
      | .ex x σ2 T2 => .ex x σ2 T2
      | .bad => .bad) else .nx σ T1
def loopFuel : Nat := 1000000000
/-- may the statement be run by a store into that target by itself -/
def notLc : Expr → Bool
  | .ListComp _ _ _ _ => false
  | .SetComp _ _ _ _ => false
  | .DictComp _ _ _ _ _ => false
  | _ => true
def notTup : Expr → Bool
  | .Tuple _ _ _ => false
  | _ => true
def bindM (F : Fi) (tg : Expr) (d : D) : SM := fun σ T => match bindT F tg d σ with
  | some σ1 => .nx σ1 T
  | none => .bad
def stepStm (G : Gi) (EI : Ei) (C : CallT) (R : Dn) (X : List Stmt → Fi → SM) (F : Fi) (st : Stmt) : SM := match st with
  | .Pass _ => fun σ T => .nx σ T
  | .Break _ => fun σ T => .bk σ T
  | .Continue _ => fun σ T => .ct σ T
  | .Return none _ => fun _ T => .rt .non false T
  | .Return (some (.Name x p)) _ => if isDbg x then (fun _ _ => .bad) else (match slot F x with
    | some i => fun σ T => (match σ[i]? with
      | some (.fz d) => .rt d false T
      | some (.ow d) => .rt d true T
      | _ => .bad)
    | none => fun σ T => (R.val F (.Name x p) σ T).then_ σ fun d T1 => .rt d.1 d.2 T1)
  | .Return (some e) pos => fun σ T => (R.val F e σ T).then_ σ fun d T1 => .rt d.1 d.2 T1
  | .Assign [.Name x py] (.ListComp elt gs scope p) pos => withL F x fun i σ T => (R.val F (.ListComp elt gs scope p) σ T).then_ σ fun d T1 => put G i x d.1 d.2 σ T1
  | .Assign [.Name x _] (.Call (.Attribute (.Name y _) m ap) args [] cp) _ => if mutOk y m args ap cp then withL F x fun i => mutM R F y m args fun r σ T => put G i x r false σ T else fun _ _ => .bad
  | .Assign [.Name x _] e _ => if notLc e then withL F x fun i σ T => (R.val F e σ T).then_ σ fun d T1 => put G i x d.1 d.2 σ T1 else fun _ _ => .bad
  | .Assign [.Tuple ts k p] (.Call (.Attribute (.Name y _) m ap) args [] cp) _ => if mutOk y m args ap cp then mutM R F y m args fun r σ T => bindM F (.Tuple ts k p) r σ T else fun _ _ => .bad
  | .Assign [.Tuple ts k p] e _ => if notLc e && notTup e then fun σ T => (vE R F e σ T).then_ σ fun d T1 => bindM F (.Tuple ts k p) d σ T1 else fun _ _ => .bad
  | .Assign [.Subscript (.Name x _) i _] e _ => if notLc e && notTup e && notSlice i && !isDbg x then withS F x fun k σ T => if isHere k σ then (vE R F e σ T).then_ σ fun d T1 => (vE R F i σ T1).then_ σ fun j T2 => setM k j d σ T2 else .bad else fun _ _ => .bad
  | .AugAssign (.Name x _) op e _ => if isDbg x then (fun _ _ => .bad) else (match slotL F x with
    | some i => fun σ T => (match σ[i]? with
      | some (.fz d) => (vE R F e σ T).then_ σ fun y T1 => (match augD op d y with
        | some z => .nx (σ.set i (.fz z)) T1
        | none => .bad)
      | _ => .bad)
    | none => fun _ _ => .bad)
  | .Expr (.Constant (.str _) _ _) _ => fun σ T => .nx σ T
  | .Expr (.Call (.Attribute (.Name y _) m ap) [.Call (.Attribute (.Name z _) m2 ap2) args [] cp2] [] cp) _ =>
    if mutOk z m2 args ap2 cp2 && mutOk y m [] ap cp && decide (m = ("append" : Str)) then fun σ T => if isOw F y σ then mutM R F z m2 args (fun r σ1 T1 => mutV F y m [r] (fun _ σ T => .nx σ T) σ1 T1) σ T else .bad else fun _ _ => .bad
  | .Expr (.Call (.Attribute (.Name y _) m ap) args [] cp) _ => if mutOk y m args ap cp then mutM R F y m args fun _ σ T => .nx σ T else fun _ _ => .bad
  | .Expr (.Call (.Name f p0) args [] p) _ => fun σ T => (R.val F (.Call (.Name f p0) args [] p) σ T).then_ σ fun _ T1 => .nx σ T1
  | .If c a b _ => fun σ T => (R.tst F c σ T).then_ σ fun k T1 => if k then X a F σ T1 else X b F σ T1
  | .While c body [] _ => whileLoop (R.tst F c) (X body F) loopFuel
  | .For tg iter body [] _ => if notSet iter then fun σ T => (itM (vE R) R F tg iter σ T).then_ σ fun ds T1 => forLoop (bindT F tg) (X body F) ds σ T1 else fun _ _ => .bad
  | .Raise (some (.Call (.Name x _) args [] _)) none _ => if isGl F.sc x && !isDbg x && EI.has x args.length then fun σ T => (aE R F args σ T).then_ σ fun ds T1 => (match EI.mkX x ds with
      | some e => .ex e σ T1
      | none => .bad) else fun _ _ => .bad
  | _ => fun _ _ => .bad
def stmsBy (S : Fi → Stmt → SM) : List Stmt → Fi → SM
  | [], _ => fun σ T => .nx σ T
  | st :: r, F => fun σ T => (S F st σ T).seq (stmsBy S r F)
/-- E: statements that are run by a law's own rule (try) -/
abbrev ExtT := CallT → Dn → Fi → Stmt → Option SM
def sn (G : Gi) (EI : Ei) (U : ExtT) (C : CallT) (M : Nat) : Nat → Fi → Stmt → SM
  | 0, _, _ => fun _ _ => .bad
  | n + 1, F, st => fun σ T => (match U C (dn G C M) F st with
    | some m => m
    | none => stepStm G EI C (dn G C M) (stmsBy (sn G EI U C M n)) F st) (frzE G F st.pos.line σ) T
/-- a def: its names (parameters first), the number of its parameters, its scope, its body -/
structure Df where
  N : List Str
  np : Nat
  sc : Scope
  body : List Stmt
def startE (d : Df) (ds : List D) : Env := ds.map .fz ++ List.replicate (d.N.length - ds.length) .no
def runDf (G : Gi) (EI : Ei) (U : ExtT) (C : CallT) (M L : Nat) (d : Df) (ds : List D) (T : Sto) : Res (D × Bool) :=
  if ds.length = d.np then (match stmsBy (sn G EI U C M L) d.body ⟨d.N, d.sc, fun _ => true⟩ (startE d ds) T with
    | .nx _ T => .ok (.non, false) T
    | .rt d b T => .ok (d, b) T
    | .ex x _ T => .ex x T
    | _ => .bad) else .bad
/-- all defs of the module, n calls deep -/
def callN (G : Gi) (EI : Ei) (U : ExtT) (M L : Nat) (tab : List (Str × Df)) : Nat → CallT
  | 0 => fun _ _ _ => .bad
  | n + 1 => fun f ds T => match tab.lookup f with
    | some d => runDf G EI U (callN G EI U M L tab n) M L d ds T
    | none => .bad
end Mi


set_option Elab.async false
set_option linter.all false
set_option maxRecDepth 100000
/-! MiC: how data lie in the abstract heap; what an evaluation may change; readings. -/
namespace Mi
open PySem PySem.Spec PyProof.Rows L2

/-! ### data in the heap: G is the part of the heap that nobody changes any more, rho the store objects' addresses -/
mutual
inductive Rp (K : PySem.W.Frag) (ρ : List Addr) (G : Hp) : V → D → Prop
  | non : Rp K ρ G .non .non
  | bl (b : Bool) : Rp K ρ G (.bl b) (.bl b)
  | int (i : Int) : Rp K ρ G (.int i) (.int i)
  | str (s : Str) : Rp K ρ G (.str s) (.str s)
  | tup {a : Addr} {vs : List V} {ds : List D} : SqT K G a vs → Rps K ρ G vs ds → Rp K ρ G (.ref a) (.tup ds)
  | lst {a : Addr} {vs : List V} {ds : List D} : G a = some (.lst vs) → Rps K ρ G vs ds → Rp K ρ G (.ref a) (.lst ds)
  | obj {a : Addr} {n : Nat} : ρ[n]? = some a → Rp K ρ G (.ref a) (.obj n)
inductive Rps (K : PySem.W.Frag) (ρ : List Addr) (G : Hp) : List V → List D → Prop
  | nil : Rps K ρ G [] []
  | cons {v : V} {vs : List V} {d : D} {ds : List D} : Rp K ρ G v d → Rps K ρ G vs ds → Rps K ρ G (v :: vs) (d :: ds)
end
abbrev Sub (G H : Hp) : Prop := ∀ a o, G a = some o → H a = some o
abbrev Pre (ρ ρ' : List Addr) : Prop := ∀ (n : Nat) (a : Addr), ρ[n]? = some a → ρ'[n]? = some a
theorem Rd.sub {G H : Hp} (s : Sub G H) {a : Addr} {u : HO} (h : Rd G a u) : Rd H a u := by
  rcases h with h | ⟨o, h⟩
  · exact .inl (s _ _ h)
  · exact .inr ⟨o, s _ _ h⟩
theorem SqT.sub {K : PySem.W.Frag} {G H : Hp} (s : Sub G H) {a : Addr} {vs : List V} (h : SqT K G a vs) : SqT K H a vs := by
  rcases h with h | h
  · exact .inl (Rd.sub s h)
  · exact .inr h
section
variable {K : PySem.W.Frag} {ρ ρ' : List Addr} {G G' H : Hp}
mutual
theorem Rp.mono (s : Sub G G') (p : Pre ρ ρ') : ∀ (d : D) (v : V), Rp K ρ G v d → Rp K ρ' G' v d
  | .non, _, h => by cases h; exact .non
  | .bl b, _, h => by cases h; exact .bl b
  | .int i, _, h => by cases h; exact .int i
  | .str x, _, h => by cases h; exact .str x
  | .tup ds, _, h => by
    cases h with
    | tup q r => exact .tup (SqT.sub s q) (Rps.mono s p ds _ r)
  | .lst ds, _, h => by
    cases h with
    | lst q r => exact .lst (s _ _ q) (Rps.mono s p ds _ r)
  | .dct _, _, h => by cases h
  | .obj n, _, h => by
    cases h with
    | obj q => exact .obj (p _ _ q)
theorem Rps.mono (s : Sub G G') (p : Pre ρ ρ') : ∀ (ds : List D) (vs : List V), Rps K ρ G vs ds → Rps K ρ' G' vs ds
  | [], _, h => by cases h; exact .nil
  | d :: ds, _, h => by
    cases h with
    | cons q r => exact .cons (Rp.mono s p d _ q) (Rps.mono s p ds _ r)
end
theorem Rps.length : ∀ {vs : List V} {ds : List D}, Rps K ρ G vs ds → vs.length = ds.length
  | _, _, .nil => rfl
  | _, _, .cons _ r => by rw [List.length_cons, List.length_cons, Rps.length r]
theorem Rps.get : ∀ {vs : List V} {ds : List D} {i : Nat} {d : D}, Rps K ρ G vs ds → ds[i]? = some d → ∃ v, vs[i]? = some v ∧ Rp K ρ G v d
  | _, _, _, _, .nil, e => by simp at e
  | _, _, 0, _, .cons q _, e => by simp at e; subst e; exact ⟨_, rfl, q⟩
  | _, _, i + 1, d, .cons _ r, e => by
    obtain ⟨v, h1, h2⟩ := Rps.get (i := i) (d := d) r (by simpa using e)
    exact ⟨v, by simpa using h1, h2⟩
theorem Rps.app : ∀ {vs ws : List V} {ds es : List D}, Rps K ρ G vs ds → Rps K ρ G ws es → Rps K ρ G (vs ++ ws) (ds ++ es)
  | _, _, _, _, .nil, s => s
  | _, _, _, _, .cons q r, s => .cons q (Rps.app r s)
theorem Rps.one {v : V} {d : D} (h : Rp K ρ G v d) : Rps K ρ G [v] [d] := .cons h .nil
theorem Rps.take : ∀ {vs : List V} {ds : List D} (n : Nat), Rps K ρ G vs ds → Rps K ρ G (vs.take n) (ds.take n)
  | _, _, 0, _ => .nil
  | _, _, _ + 1, .nil => .nil
  | _, _, n + 1, .cons q r => .cons q (Rps.take n r)
theorem Rps.drop : ∀ {vs : List V} {ds : List D} (n : Nat), Rps K ρ G vs ds → Rps K ρ G (vs.drop n) (ds.drop n)
  | _, _, 0, r => r
  | _, _, _ + 1, .nil => .nil
  | _, _, n + 1, .cons _ r => Rps.drop n r
theorem Rps.set {v : V} {d : D} (h : Rp K ρ G v d) : ∀ {vs : List V} {ds : List D} (n : Nat), Rps K ρ G vs ds → Rps K ρ G (vs.set n v) (ds.set n d)
  | _, _, _, .nil => .nil
  | _, _, 0, .cons _ r => .cons h r
  | _, _, n + 1, .cons q r => .cons q (Rps.set h n r)
theorem Rps.erase : ∀ {vs : List V} {ds : List D} (n : Nat), Rps K ρ G vs ds → Rps K ρ G (vs.eraseIdx n) (ds.eraseIdx n)
  | _, _, _, .nil => .nil
  | _, _, 0, .cons _ r => r
  | _, _, n + 1, .cons q r => .cons q (Rps.erase n r)
theorem Rps.rev {vs : List V} {ds : List D} (h : Rps K ρ G vs ds) : Rps K ρ G vs.reverse ds.reverse := by
  induction ds generalizing vs with
  | nil => cases h; exact .nil
  | cons d ds ih =>
    cases h with
    | cons q r =>
      rw [List.reverse_cons, List.reverse_cons]
      exact (ih r).app (.one q)
theorem Rps.dropLast {vs : List V} {ds : List D} (h : Rps K ρ G vs ds) : Rps K ρ G vs.dropLast ds.dropLast := by
  rw [List.dropLast_eq_take, List.dropLast_eq_take, h.length]
  exact h.take _
theorem Rps.rep {vs : List V} {ds : List D} (h : Rps K ρ G vs ds) : ∀ n : Nat, Rps K ρ G (List.replicate n vs).flatten (Mi.rep n ds)
  | 0 => .nil
  | n + 1 => by
    have q := h.app (Rps.rep h n)
    unfold Mi.rep
    rw [List.replicate_succ, List.replicate_succ, List.flatten_cons, List.flatten_cons]
    exact q
theorem Rps.cut {vs : List V} {ds : List D} (h : Rps K ρ G vs ds) (lo hi : Option Int) : Rps K ρ G (cutL vs lo hi) (cutL ds lo hi) := by
  unfold cutL
  rw [h.length]
  exact (h.drop _).take _
theorem Rps.ints : ∀ {ns : List Int}, Rps K ρ G (ns.map V.int) (ns.map D.int)
  | [] => .nil
  | n :: ns => .cons (.int n) Rps.ints
theorem Rps.of_ints : ∀ {ds : List D} {vs : List V} {ns : List Int}, Rps K ρ G vs ds → intsOf ds = some ns → vs = ns.map V.int
  | [], _, ns, h, e => by cases h; simp [intsOf] at e; subst e; rfl
  | d :: ds, _, ns, h, e => by
    cases h with
    | cons q r =>
      cases d <;> first | (simp [intsOf] at e; done) | skip
      rename_i i
      cases q
      unfold intsOf at e
      cases e2 : intsOf ds with
      | none => rw [e2] at e; cases e
      | some ms =>
        rw [e2] at e
        have e3 : i :: ms = ns := by simpa using e
        rw [← e3, Rps.of_ints r e2]
        rfl
theorem Rps.of_bools : ∀ {ds : List D} {vs : List V} {bs : List Bool}, Rps K ρ G vs ds → boolsOf ds = some bs → vs = bs.map V.bl
  | [], _, ns, h, e => by cases h; simp [boolsOf] at e; subst e; rfl
  | d :: ds, _, ns, h, e => by
    cases h with
    | cons q r =>
      cases d <;> first | (simp [boolsOf] at e; done) | skip
      rename_i i
      cases q
      unfold boolsOf at e
      cases e2 : boolsOf ds with
      | none => rw [e2] at e; cases e
      | some ms =>
        rw [e2] at e
        have e3 : i :: ms = ns := by simpa using e
        rw [← e3, Rps.of_bools r e2]
        rfl
end

/-- only looked at: frozen, or a list that stands there by itself -/
def PRel (K : PySem.W.Frag) (ρ : List Addr) (G H : Hp) (v : V) (d : D) : Prop :=
  Rp K ρ G v d ∨ ∃ (a : Addr) (vs : List V) (ds : List D), v = .ref a ∧ d = .lst ds ∧ H a = some (.lst vs) ∧ Rps K ρ G vs ds ∧ a ∉ ρ
def ObR (K : PySem.W.Frag) (ρ : List Addr) (G : Hp) : Ob → Option HO → Prop
  | .lst ds, h => ∃ vs, h = some (.lst vs) ∧ Rps K ρ G vs ds
  | .frz ds, h => ∃ o vs, h = some (.frz o (.lst vs)) ∧ Rps K ρ G vs ds
  | .ins _ _, _ => False
def isFrz : HO → Prop
  | .frz _ _ => True
  | _ => False
structure Wd (K : PySem.W.Frag) (ρ : List Addr) (G H : Hp) (T : Sto) : Prop where
  sub : Sub G H
  len : ρ.length = T.length
  sto : ∀ (n : Nat) (ob : Ob), T[n]? = some ob → ∃ a, ρ[n]? = some a ∧ ObR K ρ G ob (H a)
  nd : ρ.Nodup
  dj : ∀ a ∈ ρ, G a = none
structure Tr (ρ : List Addr) (G H : Hp) (ρ' : List Addr) (G' H' : Hp) : Prop where
  pre : Pre ρ ρ'
  rnew : ∀ a ∈ ρ', a ∈ ρ ∨ H a = none
  gsub : Sub G G'
  gnew : ∀ a, G' a ≠ none → G a ≠ none ∨ H a = none
  keep : ∀ a o, H a = some o → (a ∉ ρ ∨ isFrz o) → H' a = some o
section
variable {K : PySem.W.Frag} {ρ ρ' ρ1 ρ2 : List Addr} {G G' G1 G2 H H' H1 H2 : Hp} {T T' : Sto} {v : V} {d : D}
theorem Tr.refl : Tr ρ G H ρ G H := ⟨fun _ _ e => e, fun _ h => .inl h, fun _ _ e => e, fun _ h => .inl h, fun _ _ e _ => e⟩
theorem Pre.mem (p : Pre ρ ρ') {a : Addr} (h : a ∈ ρ) : a ∈ ρ' := by
  obtain ⟨n, hn⟩ := List.mem_iff_getElem?.mp h
  exact List.mem_of_getElem? (p n a hn)
/-- what is free behind was free ahead -/
theorem Tr.back (t : Tr ρ G H ρ1 G1 H1) {a : Addr} (h : H1 a = none) : a ∈ ρ ∨ H a = none := by
  cases e : H a with
  | none => exact .inr rfl
  | some o =>
    by_cases hr : a ∈ ρ
    · exact .inl hr
    · have := t.keep a o e (.inl hr)
      rw [h] at this
      cases this
theorem Wd.at (w : Wd K ρ G H T) {a : Addr} (h : a ∈ ρ) : H a ≠ none := by
  obtain ⟨n, hn⟩ := List.mem_iff_getElem?.mp h
  have hlt : n < T.length := by
    rw [← w.len]
    exact (List.getElem?_eq_some_iff.mp hn).1
  obtain ⟨b, hb, r⟩ := w.sto n _ (List.getElem?_eq_getElem hlt)
  rw [hn] at hb
  cases hb
  intro e
  rw [e] at r
  cases hT : T[n] with
  | lst ds => rw [hT] at r; obtain ⟨_, z, _⟩ := r; cases z
  | frz ds => rw [hT] at r; obtain ⟨_, _, z, _⟩ := r; cases z
  | ins C fs => rw [hT] at r; exact r
theorem Tr.trans (t : Tr ρ G H ρ1 G1 H1) (w1 : Wd K ρ1 G1 H1 T) (u : Tr ρ1 G1 H1 ρ2 G2 H2) (w2 : Wd K ρ2 G2 H2 T') : Tr ρ G H ρ2 G2 H2 := by
  have bk : ∀ a, H1 a = none → H a = none := fun a h => by
    rcases t.back h with hr | hr
    · exact absurd h (w1.at (t.pre.mem hr))
    · exact hr
  refine ⟨fun n a e => u.pre n a (t.pre n a e), fun a h => ?_, fun a o e => u.gsub a o (t.gsub a o e), fun a h => ?_, fun a o e h => ?_⟩
  · rcases u.rnew a h with h | h
    · exact t.rnew a h
    · exact .inr (bk a h)
  · rcases u.gnew a h with h | h
    · exact t.gnew a h
    · exact .inr (bk a h)
  · have q := t.keep a o e h
    refine u.keep a o q ?_
    rcases h with h | h
    · refine .inl fun h1 => ?_
      rcases t.rnew a h1 with z | z
      · exact h z
      · rw [e] at z; cases z
    · exact .inr h
theorem Tr.new (t : Tr ρ G H ρ1 G1 H1) (w1 : Wd K ρ1 G1 H1 T) {p : Addr} (hp : H1 p = none) (o : HO) : Tr ρ G H ρ1 G1 (upd H1 p o) := by
  refine ⟨t.pre, t.rnew, t.gsub, t.gnew, fun a o' e h => ?_⟩
  have q := t.keep a o' e h
  rw [upd_ne (ne_of_none q hp)]
  exact q
theorem Rp.tr (t : Tr ρ G H ρ1 G1 H1) (h : Rp K ρ G v d) : Rp K ρ1 G1 v d := Rp.mono t.gsub t.pre _ _ h
theorem Rps.tr (t : Tr ρ G H ρ1 G1 H1) {vs : List V} {ds : List D} (h : Rps K ρ G vs ds) : Rps K ρ1 G1 vs ds := Rps.mono t.gsub t.pre _ _ h
theorem PRel.tr (t : Tr ρ G H ρ1 G1 H1) (h : PRel K ρ G H v d) : PRel K ρ1 G1 H1 v d := by
  rcases h with h | ⟨a, vs, ds, e1, e2, ha, r, n⟩
  · exact .inl (h.tr t)
  · refine .inr ⟨a, vs, ds, e1, e2, t.keep _ _ ha (.inl n), r.tr t, fun z => ?_⟩
    rcases t.rnew a z with z | z
    · exact n z
    · rw [ha] at z; cases z
theorem ObR.mono (s : Sub G G') (p : Pre ρ ρ') {ob : Ob} {h : Option HO} (r : ObR K ρ G ob h) : ObR K ρ' G' ob h := by
  cases ob with
  | lst ds => obtain ⟨vs, e, q⟩ := r; exact ⟨vs, e, Rps.mono s p _ _ q⟩
  | frz ds => obtain ⟨o, vs, e, q⟩ := r; exact ⟨o, vs, e, Rps.mono s p _ _ q⟩
  | ins C fs => exact r
/-- a new object that is not frozen -/
theorem Wd.new (w : Wd K ρ G H T) {p : Addr} (hp : H p = none) (o : HO) : Wd K ρ G (upd H p o) T := by
  refine ⟨fun a u e => ?_, w.len, fun n ob e => ?_, w.nd, w.dj⟩
  · have q := w.sub a u e
    rw [upd_ne (ne_of_none q hp)]
    exact q
  · obtain ⟨a, ha, r⟩ := w.sto n ob e
    refine ⟨a, ha, ?_⟩
    have : a ≠ p := fun z => w.at (List.mem_of_getElem? ha) (by rw [z]; exact hp)
    rw [upd_ne this]
    exact r
/-- an object that stands by itself is frozen -/
theorem Wd.frz (w : Wd K ρ G H T) {p : Addr} {o : HO} (hp : H p = some o) (n : p ∉ ρ) (g : G p = none) : Wd K ρ (upd G p o) H T := by
  have s : Sub G (upd G p o) := fun a u e => by
    rw [upd_ne (ne_of_none e g)]
    exact e
  refine ⟨fun a u e => ?_, w.len, fun n ob e => ?_, w.nd, fun a h => ?_⟩
  · by_cases hb : a = p
    · rw [hb, upd_same] at e
      cases e
      rw [hb]
      exact hp
    · rw [upd_ne hb] at e
      exact w.sub a u e
  · obtain ⟨a, ha, r⟩ := w.sto n ob e
    exact ⟨a, ha, r.mono s fun _ _ e => e⟩
  · have : a ≠ p := fun z => n (z ▸ h)
    rw [upd_ne this]
    exact w.dj a h
theorem Tr.frz (t : Tr ρ G H ρ1 G1 H1) {p : Addr} (o : HO) (g1 : G1 p = none) (h0 : H p = none) : Tr ρ G H ρ1 (upd G1 p o) H1 := by
  refine ⟨t.pre, t.rnew, fun a u e => ?_, fun a h => ?_, t.keep⟩
  · have q := t.gsub a u e
    rw [upd_ne (ne_of_none q g1)]
    exact q
  · by_cases hb : a = p
    · rw [hb]; exact .inr h0
    · rw [upd_ne hb] at h
      exact t.gnew a h
theorem sub_frz {p : Addr} (o : HO) (g : G p = none) : Sub G (upd G p o) := fun a u e => by
  rw [upd_ne (ne_of_none e g)]
  exact e
/-- nothing free is frozen or a store object -/
theorem Wd.gfree (w : Wd K ρ G H T) {p : Addr} (hp : H p = none) : G p = none := by
  cases e : G p with
  | none => rfl
  | some o => rw [w.sub _ _ e] at hp; cases hp
theorem Wd.rfree (w : Wd K ρ G H T) {p : Addr} (hp : H p = none) : p ∉ ρ := fun h => w.at h hp
theorem Tr.hfree (t : Tr ρ G H ρ1 G1 H1) (w1 : Wd K ρ1 G1 H1 T) {p : Addr} (hp : H1 p = none) : H p = none := by
  rcases t.back hp with hr | hr
  · exact absurd (t.pre.mem hr) (w1.rfree hp)
  · exact hr
end

/-! ### a frame's names -/
def SloR (K : PySem.W.Frag) (ρ : List Addr) (G H : Hp) (s : Sl) (v : Option V) : Prop := match s with
  | .no => True
  | .fz d => ∃ x, v = some x ∧ Rp K ρ G x d
  | .ow d => ∃ (a : Addr) (vs : List V) (ds : List D), v = some (.ref a) ∧ d = .lst ds ∧ H a = some (.lst vs) ∧ Rps K ρ G vs ds ∧ a ∉ ρ ∧ G a = none
structure EnvR (K : PySem.W.Frag) (ρ : List Addr) (G H : Hp) (σ : Env) (σv : L2.St) : Prop where
  len : σ.length = σv.length
  at_ : ∀ (i : Nat) (s : Sl) (v : Option V), σ[i]? = some s → σv[i]? = some v → SloR K ρ G H s v
  dist : ∀ (i j : Nat) (d e : D) (a : Addr), σ[i]? = some (.ow d) → σ[j]? = some (.ow e) → σv[i]? = some (some (V.ref a)) → σv[j]? = some (some (V.ref a)) → i = j
section
variable {K : PySem.W.Frag} {ρ ρ1 : List Addr} {G G1 H H1 : Hp} {T T1 : Sto} {σ : Env} {σv : L2.St}
theorem SloR.tr (t : Tr ρ G H ρ1 G1 H1) {s : Sl} {v : Option V} (h : SloR K ρ G H s v) : SloR K ρ1 G1 H1 s v := by
  cases s with
  | no => trivial
  | fz d => obtain ⟨x, e, r⟩ := h; exact ⟨x, e, r.tr t⟩
  | ow d =>
    obtain ⟨a, vs, ds, e1, e2, ha, r, n, g⟩ := h
    refine ⟨a, vs, ds, e1, e2, t.keep _ _ ha (.inl n), r.tr t, fun z => ?_, ?_⟩
    · rcases t.rnew a z with z | z
      · exact n z
      · rw [ha] at z; cases z
    · cases q : G1 a with
      | none => rfl
      | some o =>
        rcases t.gnew a (by rw [q]; exact fun z => nomatch z) with z | z
        · exact absurd g z
        · rw [ha] at z; cases z
theorem EnvR.tr (t : Tr ρ G H ρ1 G1 H1) (h : EnvR K ρ G H σ σv) : EnvR K ρ1 G1 H1 σ σv :=
  ⟨h.len, fun i s v e1 e2 => (h.at_ i s v e1 e2).tr t, h.dist⟩
theorem EnvR.look (h : EnvR K ρ G H σ σv) {i : Nat} {s : Sl} (e : σ[i]? = some s) : ∃ v, σv[i]? = some v ∧ SloR K ρ G H s v := by
  have hi : i < σv.length := by
    rw [← h.len]
    exact (List.getElem?_eq_some_iff.mp e).1
  exact ⟨_, List.getElem?_eq_getElem hi, h.at_ i s _ e (List.getElem?_eq_getElem hi)⟩
theorem EnvR.fz (h : EnvR K ρ G H σ σv) {i : Nat} {d : D} (e : σ[i]? = some (.fz d)) : ∃ x, σv[i]? = some (some x) ∧ Rp K ρ G x d := by
  obtain ⟨v, e2, x, rfl, r⟩ := h.look e
  exact ⟨x, e2, r⟩
end
end Mi


set_option Elab.async false
set_option linter.all false
set_option maxRecDepth 100000
/-! MiD: operators, comparisons, truth, items, slices on data. -/
namespace Mi
open PySem PySem.Spec PyProof.Rows L2

/-! ### what a value is -/
section
variable {K : PySem.W.Frag} {ρ : List Addr} {G H : Hp} {v : V} {ds : List D}
theorem Rp.i {i : Int} (h : Rp K ρ G v (.int i)) : v = .int i := by cases h; rfl
theorem Rp.b {b : Bool} (h : Rp K ρ G v (.bl b)) : v = .bl b := by cases h; rfl
theorem Rp.n (h : Rp K ρ G v .non) : v = .non := by cases h; rfl
theorem Rp.s {s : Str} (h : Rp K ρ G v (.str s)) : v = .str s := by cases h; rfl
theorem PRel.i {i : Int} (h : PRel K ρ G H v (.int i)) : v = .int i := by
  rcases h with h | ⟨_, _, _, _, e, _⟩
  · exact h.i
  · cases e
theorem PRel.b {b : Bool} (h : PRel K ρ G H v (.bl b)) : v = .bl b := by
  rcases h with h | ⟨_, _, _, _, e, _⟩
  · exact h.b
  · cases e
theorem PRel.n (h : PRel K ρ G H v .non) : v = .non := by
  rcases h with h | ⟨_, _, _, _, e, _⟩
  · exact h.n
  · cases e
theorem PRel.s {s : Str} (h : PRel K ρ G H v (.str s)) : v = .str s := by
  rcases h with h | ⟨_, _, _, _, e, _⟩
  · exact h.s
  · cases e
theorem PRel.t (h : PRel K ρ G H v (.tup ds)) : ∃ a vs, v = .ref a ∧ SqT K G a vs ∧ Rps K ρ G vs ds := by
  rcases h with h | ⟨_, _, _, _, e, _⟩
  · cases h with
    | tup q r => exact ⟨_, _, rfl, q, r⟩
  · cases e
theorem PRel.l (s : Sub G H) (h : PRel K ρ G H v (.lst ds)) : ∃ a vs, v = .ref a ∧ H a = some (.lst vs) ∧ Rps K ρ G vs ds := by
  rcases h with h | ⟨a, vs, ds', e1, e, h1, r, _⟩
  · cases h with
    | lst q r => exact ⟨_, _, rfl, s _ _ q, r⟩
  · cases e
    exact ⟨a, vs, e1, h1, r⟩
theorem PRel.o {n : Nat} (h : PRel K ρ G H v (.obj n)) : ∃ a, v = .ref a ∧ ρ[n]? = some a := by
  rcases h with h | ⟨_, _, _, _, e, _⟩
  · cases h with
    | obj q => exact ⟨_, rfl, q⟩
  · cases e
theorem PRel.d {kvs : List (Str × D)} (h : PRel K ρ G H v (.dct kvs)) : False := by
  rcases h with h | ⟨_, _, _, _, e, _⟩
  · cases h
  · cases e
end
theorem fits_iff {n : Nat} : fits n = true ↔ n ≤ sizeLine := by
  unfold fits
  rw [decide_eq_true_eq, sizeLine_eq]

/-! ### the end of an operation -/
def Fresh (K : PySem.W.Frag) (ρ : List Addr) (G H0 H : Hp) (v : V) (d : D) : Prop :=
  ∃ (a : Addr) (vs : List V) (ds : List D), v = .ref a ∧ d = .lst ds ∧ H a = some (.lst vs) ∧ Rps K ρ G vs ds ∧ a ∉ ρ ∧ G a = none ∧ H0 a = none
/-- the kinds of what an evaluation gives: frozen; only looked at; frozen or a new list of one's own -/
abbrev Kd (β α : Type) := List Addr → Hp → Hp → Hp → β → α → Prop
def kF (K : PySem.W.Frag) : Kd V D := fun ρ G _ _ v d => Rp K ρ G v d
def kP (K : PySem.W.Frag) : Kd V D := fun ρ G _ H v d => PRel K ρ G H v d
def kV (K : PySem.W.Frag) : Kd V (D × Bool) := fun ρ G H0 H v p => if p.2 = true then Fresh K ρ G H0 H v p.1 else Rp K ρ G v p.1
def Done (K : PySem.W.Frag) (ρ : List Addr) (G H : Hp) (T : Sto) (Q : VK) (r : D × Bool) : Prop :=
  ∀ v ρ' G' H', Tr ρ G H ρ' G' H' → Wd K ρ' G' H' T → kV K ρ' G' H H' v r → Q v H'
section
variable {K : PySem.W.Frag} {ρ : List Addr} {G H : Hp} {T : Sto} {Q : VK} {v : V} {d : D} {ds : List D} {vs : List V}
theorem Done.frozen (q : Done K ρ G H T Q (d, false)) (w : Wd K ρ G H T) (r : Rp K ρ G v d) : Q v H := q v ρ G H .refl w r
theorem Done.tup (q : Done K ρ G H T Q (.tup ds, false)) (w : Wd K ρ G H T) (r : Rps K ρ G vs ds) {p : Addr} (hp : H p = none) : Q (.ref p) (upd H p (.tup vs)) := by
  have g := w.gfree hp
  have n := w.rfree hp
  have w1 : Wd K ρ (upd G p (.tup vs)) (upd H p (.tup vs)) T := (w.new hp _).frz upd_same n g
  refine q _ ρ (upd G p (.tup vs)) _ ((Tr.refl.new w hp _).frz _ g hp) w1 ?_
  exact .tup (.inl (.inl upd_same)) (Rps.mono (sub_frz _ g) (fun _ _ e => e) _ _ r)
theorem Done.lst (q : Done K ρ G H T Q (.lst ds, true)) (w : Wd K ρ G H T) (r : Rps K ρ G vs ds) {p : Addr} (hp : H p = none) : Q (.ref p) (upd H p (.lst vs)) :=
  q _ ρ G _ (Tr.refl.new w hp _) (w.new hp _) ⟨p, vs, ds, rfl, rfl, upd_same, r, w.rfree hp, w.gfree hp, hp⟩
end

/-! ### operators -/
section
variable {X : Cx}
theorem opBin (op : Operator) : OpR X (binaryOp op) (fun x y H Q => ∃ ρ G T a b d, Wd X.K ρ G H T ∧ PRel X.K ρ G H x a ∧ PRel X.K ρ G H y b ∧ binD op a b = some d ∧ Done X.K ρ G H T Q (d, isLst d)) := by
  intro pins s σ H x y v u Q I rx ry h
  obtain ⟨ρ, G, T, a, b, d, w, pa, pb, e, q⟩ := h
  unfold binD at e
  split at e
  · cases e
    cases pa.i; cases pb.i
    exact op_add pins s σ H _ _ v u Q I rx ry ⟨_, _, rfl, rfl, q.frozen w (.int _)⟩
  · split at e
    · rename_i hf
      cases e
      cases pa.s; cases pb.s
      exact op_add_str pins s σ H _ _ v u Q I rx ry ⟨_, _, rfl, rfl, fits_iff.mp hf, q.frozen w (.str _)⟩
    · cases e
  · split at e
    · rename_i xs ys hf
      cases e
      obtain ⟨p1, vs, rfl, h1, r1⟩ := pa.t
      obtain ⟨p2, ws, rfl, h2, r2⟩ := pb.t
      refine op_catA pins s σ H _ _ v u Q I rx ry ⟨p1, p2, vs, ws, rfl, rfl, SqT.sub w.sub h1, SqT.sub w.sub h2, by rw [r1.length, r2.length]; exact fits_iff.mp hf, fun z => ?_, fun _ z => ?_, fun _ _ p hp => ?_⟩
      · subst z
        cases r1
        exact q.frozen w (.tup h2 r2)
      · subst z
        cases r2
        refine q.frozen w (.tup h1 ?_)
        rw [List.append_nil]
        exact r1
      · exact Done.tup q w (r1.app r2) hp
    · cases e
  · split at e
    · rename_i xs ys hf
      cases e
      obtain ⟨p1, vs, rfl, h1, r1⟩ := pa.l w.sub
      obtain ⟨p2, ws, rfl, h2, r2⟩ := pb.l w.sub
      exact op_cat pins s σ H _ _ v u Q I rx ry ⟨p1, p2, vs, ws, rfl, rfl, h1, h2, by rw [r1.length, r2.length]; exact fits_iff.mp hf, fun p hp => Done.lst q w (r1.app r2) hp⟩
    · cases e
  · cases e
    cases pa.i; cases pb.i
    exact op_sub pins s σ H _ _ v u Q I rx ry ⟨_, _, rfl, rfl, q.frozen w (.int _)⟩
  · split at e
    · rename_i hf
      cases e
      cases pa.i; cases pb.i
      exact op_mulW pins s σ H _ _ v u Q I rx ry ⟨_, _, rfl, rfl, (show _ + _ < _ from of_decide_eq_true (by simpa using hf)), q.frozen w (.int _)⟩
    · cases e
  · split at e
    · rename_i xs j hf
      simp only [Bool.and_eq_true, decide_eq_true_eq] at hf
      obtain ⟨⟨⟨f0, f1⟩, f2⟩, f3⟩ := hf
      cases e
      obtain ⟨p1, vs, rfl, h1, r1⟩ := pa.t
      cases pb.i
      refine op_repT pins s σ H _ _ v u Q I rx ry ⟨p1, j, vs, rfl, rfl, SqT.sub w.sub h1, ?_, f2, f3, by rw [r1.length]; exact f1, fun p hp => Done.tup q w (r1.rep _) hp⟩
      rintro rfl
      cases r1
      simp at f0
    · cases e
  · split at e
    · rename_i xs j hf
      simp only [Bool.and_eq_true, decide_eq_true_eq] at hf
      obtain ⟨⟨f1, f2⟩, f3⟩ := hf
      cases e
      obtain ⟨p1, vs, rfl, h1, r1⟩ := pa.l w.sub
      cases pb.i
      exact op_rep pins s σ H _ _ v u Q I rx ry ⟨p1, j, vs, rfl, rfl, h1, f1, f2, by rw [r1.length]; exact fits_iff.mp f3, fun p hp => Done.lst q w (r1.rep _) hp⟩
    · cases e
  · split at e
    · rename_i hf
      simp only [Bool.and_eq_true, decide_eq_true_eq] at hf
      cases e
      cases pa.i; cases pb.i
      exact op_fdivW pins s σ H _ _ v u Q I rx ry ⟨_, _, rfl, rfl, hf, q.frozen w (.int _)⟩
    · cases e
  · split at e
    · rename_i hf
      cases e
      cases pa.i; cases pb.i
      exact op_mod pins s σ H _ _ v u Q I rx ry ⟨_, _, rfl, rfl, of_decide_eq_true hf, q.frozen w (.int _)⟩
    · cases e
  · split at e
    · rename_i hf
      simp only [Bool.and_eq_true, decide_eq_true_eq] at hf
      obtain ⟨⟨f1, f2⟩, f3⟩ := hf
      cases e
      cases pa.i; cases pb.i
      exact op_pow pins s σ H _ _ v u Q I rx ry ⟨_, _, rfl, rfl, ⟨f1, f2, by show _ < 2 ^ 64; exact f3⟩, q.frozen w (.int _)⟩
    · cases e
  · cases e

/-! ### truth -/
theorem truV {K : PySem.W.Frag} {ρ : List Addr} {G H : Hp} {v : V} {d : D} {k : Bool} (s : Sub G H) (h : PRel K ρ G H v d) (e : truD d = some k) : TruV K v H k := by
  cases d with
  | non => cases h.n; cases e; rfl
  | bl b => cases h.b; cases e; rfl
  | int i => cases h.i; cases e; rfl
  | str x =>
    cases h.s
    have e' : (if fits x.length = true then some ((x.length : Int) != 0) else none) = some k := e
    split at e'
    · rename_i hf
      cases e'
      exact ⟨fits_iff.mp hf, rfl⟩
    · cases e'
  | tup ds =>
    obtain ⟨a, vs, rfl, h1, r⟩ := h.t
    cases e
    refine .inr (.inl ⟨vs, SqT.sub s h1, ?_⟩)
    cases r <;> rfl
  | lst ds =>
    obtain ⟨a, vs, rfl, h1, r⟩ := h.l s
    cases e
    refine .inl ⟨vs, SqL.of h1, ?_⟩
    cases r <;> rfl
  | dct kvs => cases e
  | obj n => cases e
end
/-! ### comparisons -/
mutual
theorem plain_lay : ∀ d : D, d.plain = true → d.py.canLay0 = true
  | .non, _ => rfl
  | .bl _, _ => rfl
  | .int _, _ => rfl
  | .str x, h => by
    show PyData.canLay0 (.str x) = true
    unfold PyData.canLay0
    exact h
  | .tup ds, h => by
    show PyData.canLay0 (.tuple (D.pys ds)) = true
    unfold PyData.canLay0
    exact plain_lays ds h
  | .lst ds, h => by
    show PyData.canLay0 (.list (D.pys ds)) = true
    unfold PyData.canLay0
    exact plain_lays ds h
  | .dct _, h => by cases h
  | .obj _, h => by cases h
theorem plain_lays : ∀ ds : List D, D.plains ds = true → PyData.canLayAll0 (D.pys ds) = true
  | [], _ => by
    show PyData.canLayAll0 [] = true
    unfold PyData.canLayAll0
    rfl
  | d :: ds, h => by
    have h' : (d.plain && D.plains ds) = true := h
    rw [Bool.and_eq_true] at h'
    show PyData.canLayAll0 (d.py :: D.pys ds) = true
    unfold PyData.canLayAll0
    rw [plain_lay d h'.1, plain_lays ds h'.2]
    rfl
end
mutual
theorem plain_deep : ∀ d : D, d.plain = true → d.py.depth = d.deep
  | .non, _ => by simp [D.py, D.deep, PyData.depth]
  | .bl _, _ => by simp [D.py, D.deep, PyData.depth]
  | .int _, _ => by simp [D.py, D.deep, PyData.depth]
  | .str x, h => by simp [D.py, D.deep, PyData.depth]
  | .tup ds, h => by
    have q := plain_deeps ds h
    simp [D.py, D.deep, PyData.depth, q]
  | .lst ds, h => by
    have q := plain_deeps ds h
    simp [D.py, D.deep, PyData.depth, q]
  | .dct _, h => by cases h
  | .obj _, h => by cases h
theorem plain_deeps : ∀ ds : List D, D.plains ds = true → PyData.depthAll (D.pys ds) = D.deeps ds
  | [], _ => by simp [D.pys, D.deeps, PyData.depthAll]
  | d :: ds, h => by
    have h' : (d.plain && D.plains ds) = true := h
    rw [Bool.and_eq_true] at h'
    simp [D.pys, D.deeps, PyData.depthAll, plain_deep d h'.1, plain_deeps ds h'.2]
end
section
variable {K : PySem.W.Frag} {ρ : List Addr} {G H : Hp}
mutual
theorem Rp.dp (s : Sub G H) : ∀ (d : D) (v : V), d.plain = true → Rp K ρ G v d → Dp K H v d.py
  | .non, _, _, h => by cases h; exact .non
  | .bl b, _, _, h => by cases h; exact .bl b
  | .int i, _, _, h => by cases h; exact .int i
  | .str x, _, _, h => by cases h; exact .str x
  | .tup ds, _, p, h => by
    cases h with
    | tup q r => exact .tup (SqT.sub s q) (Rps.dp s ds _ p r)
  | .lst ds, _, p, h => by
    cases h with
    | lst q r => exact .lst (SqL.of (s _ _ q)) (Rps.dp s ds _ p r)
  | .dct _, _, p, _ => by cases p
  | .obj _, _, p, _ => by cases p
theorem Rps.dp (s : Sub G H) : ∀ (ds : List D) (vs : List V), D.plains ds = true → Rps K ρ G vs ds → DpAll K H vs (D.pys ds)
  | [], _, _, h => by cases h; exact .nil
  | d :: ds, _, p, h => by
    have p' : (d.plain && D.plains ds) = true := p
    rw [Bool.and_eq_true] at p'
    cases h with
    | cons q r => exact .cons (Rp.dp s d _ p'.1 q) (Rps.dp s ds _ p'.2 r)
end
theorem PRel.dp (s : Sub G H) {d : D} {v : V} (p : d.plain = true) (h : PRel K ρ G H v d) : Dp K H v d.py := by
  rcases h with h | ⟨a, vs, ds, rfl, rfl, h1, r, _⟩
  · exact h.dp s _ _ p
  · exact .lst (SqL.of h1) (Rps.dp s ds _ p r)
theorem flat_V {d : D} {v : V} (h : Rp K ρ G v d) (f : d.flat = true) : flatV v = true := by
  cases d <;> first | (cases h; rfl) | (cases f)
theorem flats_V : ∀ {ds : List D} {vs : List V}, Rps K ρ G vs ds → ds.all D.flat = true → vs.all flatV = true
  | [], _, h, _ => by cases h; rfl
  | d :: ds, _, h, f => by
    cases h with
    | cons q r =>
      rw [List.all_cons, Bool.and_eq_true] at f
      rw [List.all_cons, flat_V q f.1, flats_V r f.2]
      rfl
theorem eqV_py {x y : V} {a b : D} (hx : Rp K ρ G x a) (hy : Rp K ρ G y b) (fa : a.flat = true) (fb : b.flat = true) : eqV x y = a.eqv b := by
  cases a <;> cases b <;> first | (cases fa; done) | (cases fb; done) | (cases hx; cases hy; simp [eqV, D.eqv, D.py, PyData.eqv])
theorem inV_any {x : V} {a : D} (hx : Rp K ρ G x a) (fa : a.flat = true) : ∀ {ds : List D} {vs : List V}, Rps K ρ G vs ds → ds.all D.flat = true → inV x vs = ds.any fun y => y.eqv a
  | [], _, h, _ => by cases h; rfl
  | d :: ds, _, h, f => by
    cases h with
    | cons q r =>
      rw [List.all_cons, Bool.and_eq_true] at f
      have e : inV x _ = ds.any fun y => y.eqv a := inV_any hx fa r f.2
      unfold inV at e
      unfold inV
      rw [List.any_cons, List.any_cons, e, eqV_py q hx f.1 fa]
end
theorem pys_any (a : D) : ∀ ds : List D, (D.pys ds).any (fun z => PyData.eqv z a.py) = ds.any fun y => y.eqv a
  | [] => rfl
  | d :: ds => by
    show (d.py :: D.pys ds).any _ = _
    rw [List.any_cons, List.any_cons, pys_any a ds]
    rfl
section
variable {X : Cx}
/-- what a comparison asks -/
def rC (X : Cx) (f : D → D → Option Bool) : R2 := fun x y H Q => ∃ ρ G T a b k, Wd X.K ρ G H T ∧ PRel X.K ρ G H x a ∧ PRel X.K ρ G H y b ∧ f a b = some k ∧ Q (.bl k) H
theorem opEqs (hu : X.A.units + 200 < cLine) (op : CmpOp) (neg : Bool) (hop : (op = .Eq ∧ neg = false) ∨ (op = .NotEq ∧ neg = true)) : OpR X (compareOp op) (rC X fun a b => (eqD a b).map fun k => neg ^^ k) := by
  intro pins s σ H x y v u Q I rx ry h
  obtain ⟨ρ, G, T, a, b, k, w, pa, pb, e, q⟩ := h
  have scal2 : ∀ {x y : V}, RelV x v → RelV y u → scal x y = true → (neg ^^ decide (x = y)) = k → wpAny (model X.prog X.w) X.A (compareOp op v u) (EP X pins σ Q) X.xe s := fun {x y} rx ry sc ek => by
    rcases hop with ⟨rfl, rfl⟩ | ⟨rfl, rfl⟩
    · exact op_eq pins s σ H x y v u Q I rx ry ⟨sc, by rw [Bool.false_xor] at ek; rw [ek]; exact q⟩
    · exact op_ne pins s σ H x y v u Q I rx ry ⟨sc, by rw [Bool.true_xor] at ek; rw [ek]; exact q⟩
  have deep : ∀ {a b : D}, PRel X.K ρ G H x a → PRel X.K ρ G H y b → (if a.plain && b.plain && decide (min a.deep b.deep ≤ 190) then some (a.eqv b) else none).map (fun k => neg ^^ k) = some k → wpAny (model X.prog X.w) X.A (compareOp op v u) (EP X pins σ Q) X.xe s := fun {a b} pa pb e => by
    split at e
    · rename_i hf
      simp only [Bool.and_eq_true, decide_eq_true_eq] at hf
      obtain ⟨⟨f1, f2⟩, f3⟩ := hf
      have ek : (neg ^^ a.eqv b) = k := by simpa using e
      obtain ⟨as, r1⟩ := Dp.reads I _ _ _ (pa.dp w.sub f1) rx
      obtain ⟨bs, r2⟩ := Dp.reads I _ _ _ (pb.dp w.sub f2) ry
      have hd : X.A.units + min a.py.depth b.py.depth < cLine := by
        rw [plain_deep a f1, plain_deep b f2]
        omega
      rcases hop with ⟨rfl, rfl⟩ | ⟨rfl, rfl⟩
      · refine SeqAt.compareEq_reads r1 r2 (plain_lay _ f1) (plain_lay _ f2) hd ⟨.bl k, H, I, ?_, q⟩
        rw [← ek, Bool.false_xor]
        rfl
      · refine SeqAt.compareNe_reads r1 r2 (plain_lay _ f1) (plain_lay _ f2) hd ⟨.bl k, H, I, ?_, q⟩
        rw [← ek, Bool.true_xor]
        rfl
    · cases e
  have e : (eqD a b).map (fun k => neg ^^ k) = some k := e
  unfold eqD at e
  split at e
  · rename_i z1 z2 _
    cases pa.s; cases pb.s
    refine scal2 rx ry rfl ?_
    have e2 : (neg ^^ decide (z1 = z2)) = k := by simpa using e
    rw [← e2]
    by_cases hz : z1 = z2
    · rw [decide_eq_true hz, decide_eq_true (by rw [hz])]
    · rw [decide_eq_false hz, decide_eq_false (fun z => hz (V.str.inj z))]
  · rename_i z1 z2 _
    cases pa.i; cases pb.i
    refine scal2 rx ry rfl ?_
    have e2 : (neg ^^ decide (z1 = z2)) = k := by simpa using e
    rw [← e2]
    by_cases hz : z1 = z2
    · rw [decide_eq_true hz, decide_eq_true (by rw [hz])]
    · rw [decide_eq_false hz, decide_eq_false (fun z => hz (V.int.inj z))]
  · exact deep pa pb e
theorem opOrd (op : CmpOp) (o : Od) (hop : (op = .Lt ∧ o = .lt) ∨ (op = .LtE ∧ o = .le) ∨ (op = .Gt ∧ o = .gt) ∨ (op = .GtE ∧ o = .ge)) : OpR X (compareOp op) (rC X (ordD o)) := by
  intro pins s σ H x y v u Q I rx ry h
  obtain ⟨ρ, G, T, a, b, k, w, pa, pb, e, q⟩ := h
  unfold ordD at e
  split at e
  · cases pa.i; cases pb.i
    cases e
    rcases hop with ⟨rfl, rfl⟩ | ⟨rfl, rfl⟩ | ⟨rfl, rfl⟩ | ⟨rfl, rfl⟩
    · exact op_lt pins s σ H _ _ v u Q I rx ry ⟨_, _, rfl, rfl, q⟩
    · exact op_le pins s σ H _ _ v u Q I rx ry ⟨_, _, rfl, rfl, q⟩
    · exact op_gt pins s σ H _ _ v u Q I rx ry ⟨_, _, rfl, rfl, q⟩
    · exact op_ge pins s σ H _ _ v u Q I rx ry ⟨_, _, rfl, rfl, q⟩
  · cases pa.s; cases pb.s
    cases e
    rcases hop with ⟨rfl, rfl⟩ | ⟨rfl, rfl⟩ | ⟨rfl, rfl⟩ | ⟨rfl, rfl⟩
    · exact op_lt_str pins s σ H _ _ v u Q I rx ry ⟨_, _, rfl, rfl, q⟩
    · exact op_le_str pins s σ H _ _ v u Q I rx ry ⟨_, _, rfl, rfl, q⟩
    · exact op_gt_str pins s σ H _ _ v u Q I rx ry ⟨_, _, rfl, rfl, q⟩
    · exact op_ge_str pins s σ H _ _ v u Q I rx ry ⟨_, _, rfl, rfl, q⟩
  · cases e
theorem str1 {z : Str} {c : Nat} (h : z.cps.toList = [c]) : z = ⟨#[c]⟩ := by
  obtain ⟨a⟩ := z
  have : a = #[c] := by
    apply Array.toList_inj.mp
    exact h
  rw [this]
theorem opMem (hu : X.A.units + 200 < cLine) (op : CmpOp) (neg : Bool) (hop : (op = .In ∧ neg = false) ∨ (op = .NotIn ∧ neg = true)) : OpR X (compareOp op) (rC X fun a b => (inD a b).map fun k => neg ^^ k) := by
  intro pins s σ H x y v u Q I rx ry h
  obtain ⟨ρ, G, T, a, b, k, w, pa, pb, e, q⟩ := h
  have e : (inD a b).map (fun k => neg ^^ k) = some k := e
  have seq : ∀ {p : Addr} {vs : List V} {ds : List D}, y = .ref p → (SqL X.K H p vs ∨ SqT X.K H p vs) → Rps X.K ρ G vs ds → (memD a ds).map (fun k => neg ^^ k) = some k → (b = .tup ds ∨ b = .lst ds) → wpAny (model X.prog X.w) X.A (compareOp op v u) (EP X pins σ Q) X.xe s := fun {p vs ds} ey hq r e hb => by
    unfold memD at e
    split at e
    · rename_i hf
      rw [Bool.and_eq_true] at hf
      have ra : Rp X.K ρ G x a := by
        rcases pa with pa | ⟨_, _, _, _, e1, _⟩
        · exact pa
        · rw [e1] at hf; cases hf.2
      have e2 : (neg ^^ ds.any fun y => y.eqv a) = k := by simpa using e
      have ei := inV_any ra hf.2 r hf.1
      rcases hop with ⟨rfl, rfl⟩ | ⟨rfl, rfl⟩
      · refine op_in_seq pins s σ H x y v u Q I rx ry ⟨p, vs, ey, hq, flat_V ra hf.2, flats_V r hf.1, ?_⟩
        rw [if_neg Bool.false_ne_true, ei]
        rw [Bool.false_xor] at e2
        rw [e2]
        exact q
      · refine op_notIn_seq pins s σ H x y v u Q I rx ry ⟨p, vs, ey, hq, flat_V ra hf.2, flats_V r hf.1, ?_⟩
        rw [if_pos rfl, ei]
        rw [Bool.true_xor] at e2
        rw [e2]
        exact q
    · split at e
      · rename_i hf
        simp only [Bool.and_eq_true, decide_eq_true_eq] at hf
        obtain ⟨⟨f1, f2⟩, f3⟩ := hf
        have e2 : (neg ^^ ds.any fun y => y.eqv a) = k := by simpa using e
        have hpl : b.plain = true := by rcases hb with rfl | rfl <;> exact f1
        obtain ⟨as, r1⟩ := Dp.reads I _ _ _ (pa.dp w.sub f2) rx
        obtain ⟨bs, r2⟩ := Dp.reads I _ _ _ (pb.dp w.sub hpl) ry
        have z := plain_lays ds f1
        have z2 := plain_deep a f2
        have hd : X.A.units + 1 + min (PyData.depthAll (D.pys ds)) a.py.depth < cLine := by
          rw [z2]
          omega
        rcases hop with ⟨rfl, rfl⟩ | ⟨rfl, rfl⟩
        · rw [Bool.false_xor] at e2
          have q' : EP X pins σ Q (.bool ((D.pys ds).any fun y => PyData.eqv y a.py)) s := ⟨.bl k, H, I, by rw [pys_any, e2]; rfl, q⟩
          rcases hb with rfl | rfl
          · exact SeqAt.in_tuple_reads r2 r1 z (plain_lay a f2) hd q'
          · exact SeqAt.in_list_reads r2 r1 z (plain_lay a f2) hd q'
        · rw [Bool.true_xor] at e2
          have q' : EP X pins σ Q (.bool (!(D.pys ds).any fun y => PyData.eqv y a.py)) s := ⟨.bl k, H, I, by rw [pys_any, e2]; rfl, q⟩
          rcases hb with rfl | rfl
          · exact SeqAt.notIn_tuple_reads r2 r1 z (plain_lay a f2) hd q'
          · exact SeqAt.notIn_list_reads r2 r1 z (plain_lay a f2) hd q'
      · cases e
  cases b with
  | tup ds =>
    obtain ⟨p, vs, rfl, h1, r⟩ := pb.t
    exact seq rfl (.inr (SqT.sub w.sub h1)) r e (.inl rfl)
  | lst ds =>
    obtain ⟨p, vs, rfl, h1, r⟩ := pb.l w.sub
    exact seq rfl (.inl (SqL.of h1)) r e (.inr rfl)
  | str z =>
    cases pb.s
    cases a with
    | str c =>
      cases pa.s
      have e' : ((match c.cps.toList with
        | [c] => some (decide (c ∈ z.cps.toList))
        | _ => none).map fun k => neg ^^ k) = some k := e
      split at e'
      · rename_i c0 hc
        have ec := str1 hc
        subst ec
        have e2 : (neg ^^ decide (c0 ∈ z.cps.toList)) = k := by simpa using e'
        rcases hop with ⟨rfl, rfl⟩ | ⟨rfl, rfl⟩
        · exact op_in_sign pins s σ H _ _ v u Q I rx ry ⟨_, _, rfl, rfl, by rw [Bool.false_xor] at e2; rw [e2]; exact q⟩
        · exact op_notIn_sign pins s σ H _ _ v u Q I rx ry ⟨_, _, rfl, rfl, by rw [Bool.true_xor] at e2; rw [e2]; exact q⟩
      · cases e'
    | _ => cases e
  | _ => cases e
theorem opIs (op : CmpOp) (neg : Bool) (hop : (op = .Is ∧ neg = false) ∨ (op = .IsNot ∧ neg = true)) : OpR X (compareOp op) (rC X fun a b => (isD a b).map fun k => neg ^^ k) := by
  intro pins s σ H x y v u Q I rx ry h
  obtain ⟨ρ, G, T, a, b, k, w, pa, pb, e, q⟩ := h
  have e : (isD a b).map (fun k => neg ^^ k) = some k := e
  have none_ : b = .non → wpAny (model X.prog X.w) X.A (compareOp op v u) (EP X pins σ Q) X.xe s := fun hb => by
    subst hb
    cases pb.n
    have e2 : (neg ^^ decide (x = V.non)) = k := by
      rcases pa with pa | ⟨p, vs, ds, rfl, rfl, _⟩
      · cases pa <;> simpa [isD] using e
      · simpa [isD] using e
    rcases hop with ⟨rfl, rfl⟩ | ⟨rfl, rfl⟩
    · exact op_isN pins s σ H _ _ v u Q I rx ry ⟨rfl, by rw [Bool.false_xor] at e2; rw [e2]; exact q⟩
    · exact op_notN pins s σ H _ _ v u Q I rx ry ⟨rfl, by rw [Bool.true_xor] at e2; rw [e2]; exact q⟩
  cases b with
  | non => exact none_ rfl
  | bl b =>
    cases a with
    | bl a =>
      cases pa.b; cases pb.b
      have e2 : (neg ^^ decide (a = b)) = k := by simpa [isD] using e
      rcases hop with ⟨rfl, rfl⟩ | ⟨rfl, rfl⟩
      · exact op_is_bl pins s σ H _ _ v u Q I rx ry ⟨_, _, rfl, rfl, by rw [Bool.false_xor] at e2; rw [e2]; exact q⟩
      · exact op_isnot_bl pins s σ H _ _ v u Q I rx ry ⟨_, _, rfl, rfl, by rw [Bool.true_xor] at e2; rw [e2]; exact q⟩
    | _ => simp [isD] at e
  | _ => cases a <;> simp [isD] at e
theorem map_id_xor {o : Option Bool} : o.map (fun k => false ^^ k) = o := by cases o <;> simp
theorem map_not_xor {o : Option Bool} : o.map (fun k => true ^^ k) = o.map (!·) := by cases o <;> simp
theorem opFeq {f : Value → Value → Sem Value} {g g' : D → D → Option Bool} (h : OpR X f (rC X g)) (e : ∀ a b, g' a b = g a b) : OpR X f (rC X g') := by
  intro pins s σ H x y v u Q I rx ry hq
  obtain ⟨ρ, G, T, a, b, k, w, pa, pb, e1, q⟩ := hq
  exact h pins s σ H x y v u Q I rx ry ⟨ρ, G, T, a, b, k, w, pa, pb, by rw [← e]; exact e1, q⟩
theorem opCmp (hu : X.A.units + 200 < cLine) (op : CmpOp) : OpR X (compareOp op) (rC X (cmpD op)) := by
  cases op with
  | Eq => exact opFeq (opEqs hu .Eq false (.inl ⟨rfl, rfl⟩)) fun a b => map_id_xor.symm
  | NotEq => exact opFeq (opEqs hu .NotEq true (.inr ⟨rfl, rfl⟩)) fun a b => map_not_xor.symm
  | Lt => exact opOrd .Lt .lt (.inl ⟨rfl, rfl⟩)
  | LtE => exact opOrd .LtE .le (.inr (.inl ⟨rfl, rfl⟩))
  | Gt => exact opOrd .Gt .gt (.inr (.inr (.inl ⟨rfl, rfl⟩)))
  | GtE => exact opOrd .GtE .ge (.inr (.inr (.inr ⟨rfl, rfl⟩)))
  | Is => exact opFeq (opIs .Is false (.inl ⟨rfl, rfl⟩)) fun a b => map_id_xor.symm
  | IsNot => exact opFeq (opIs .IsNot true (.inr ⟨rfl, rfl⟩)) fun a b => map_not_xor.symm
  | In => exact opFeq (opMem hu .In false (.inl ⟨rfl, rfl⟩)) fun a b => map_id_xor.symm
  | NotIn => exact opFeq (opMem hu .NotIn true (.inr ⟨rfl, rfl⟩)) fun a b => map_not_xor.symm
end
end Mi


set_option Elab.async false
set_option linter.all false
set_option maxRecDepth 100000
/-! MiE: readings of the interpreter; expressions without comprehensions. -/
namespace Mi
open PySem PySem.Spec PyProof.Rows L2

/-- no exception is taken in where none comes -/
theorem takesN0 {X : Cx} : L2N.Takes X (fun _ _ _ _ => False) := fun u s' ⟨_, _, _, _, _, _, _, _, _, _, _, _, _, _, _, _, z⟩ => z.elim
/-! ### what an evaluation is to reach -/
abbrev FldR (K : PySem.W.Frag) (ρ : List Addr) (G : Hp) : List (Str × V) → List (Str × D) → Prop := Paired fun p q => p.1 = q.1 ∧ Rp K ρ G p.2 q.2
/-- an exception: its class, its fields -/
def XR (K : PySem.W.Frag) (ρ : List Addr) (G H : Hp) (x : Xn) (cls : Value) (d : Option Addr) : Prop :=
  cls = .ref (He.ga K x.cls) ∧ match x.flds with
    | none => d = none
    | some fs => ∃ dx vfs, d = some dx ∧ H dx = some (.xd vfs) ∧ FldR K ρ G vfs fs
def Post {α β : Type} (K : PySem.W.Frag) (W : WX) (k : Kd β α) (ρ : List Addr) (G H : Hp) (σv : L2.St) (Q : β → Hp → Prop) : Res α → Prop
  | .ok a T' => ∀ b ρ' G' H', Tr ρ G H ρ' G' H' → Wd K ρ' G' H' T' → k ρ' G' H H' b a → Q b H'
  | .ex x T' => ∀ cls d ρ' G' H', Tr ρ G H ρ' G' H' → Wd K ρ' G' H' T' → XR K ρ' G' H' x cls d → W cls d σv H'
  | .bad => False
def RG {α β : Type} (K : PySem.W.Frag) (W : WX) (k : Kd β α) (m : EM α) : L2.St → Hp → (β → Hp → Prop) → Prop := fun σv H Q =>
  ∃ ρ G T σ, Wd K ρ G H T ∧ EnvR K ρ G H σ σv ∧ Post K W k ρ G H σv Q (m σ T)
def kB : Kd Bool Bool := fun _ _ _ _ b c => b = c
def kA (K : PySem.W.Frag) : Kd (List V) (List D) := fun ρ G _ _ vs ds => Rps K ρ G vs ds
/-- the kind does not lean on where one began -/
structure KSh {α β : Type} (k : Kd β α) : Prop where
  sh : ∀ {ρ0 : List Addr} {G0 H0 : Hp} {ρ1 : List Addr} {G1 H1 : Hp} {ρ' : List Addr} {G' H' : Hp} {b : β} {a : α}, Tr ρ0 G0 H0 ρ1 G1 H1 → Pre ρ1 ρ' → k ρ' G' H1 H' b a → k ρ' G' H0 H' b a
theorem kF_sh {K : PySem.W.Frag} : KSh (kF K) := ⟨fun _ _ h => h⟩
theorem kP_sh {K : PySem.W.Frag} : KSh (kP K) := ⟨fun _ _ h => h⟩
theorem kB_sh : KSh kB := ⟨fun _ _ h => h⟩
theorem kA_sh {K : PySem.W.Frag} : KSh (kA K) := ⟨fun _ _ h => h⟩
theorem kV_sh {K : PySem.W.Frag} : KSh (kV K) := ⟨fun {ρ0 G0 H0 ρ1 G1 H1 ρ' G' H' b a} t p h => by
  unfold kV at h ⊢
  split
  · rename_i e
    rw [if_pos e] at h
    obtain ⟨a', vs, ds, e1, e2, h1, r, n, g, f⟩ := h
    refine ⟨a', vs, ds, e1, e2, h1, r, n, g, ?_⟩
    rcases t.back f with z | z
    · exact absurd (p.mem (t.pre.mem z)) n
    · exact z
  · rename_i e
    rw [if_neg e] at h
    exact h⟩
section
variable {α β γ δ : Type} {K : PySem.W.Frag} {W : WX} {k : Kd β α} {ρ ρ1 : List Addr} {G G1 H H1 : Hp} {σv : L2.St} {σ : Env} {T T1 : Sto}
theorem Post.mono {Q Q' : β → Hp → Prop} {r : Res α} (h : Post K W k ρ G H σv Q r) (hq : ∀ b H', Q b H' → Q' b H') : Post K W k ρ G H σv Q' r := by
  cases r with
  | ok a T' => exact fun b ρ' G' H' t w z => hq _ _ (h b ρ' G' H' t w z)
  | ex x T' => exact h
  | bad => exact h
/-- from a later point on -/
theorem Post.shift {Q : β → Hp → Prop} {r : Res α} (sh : KSh k) (h : Post K W k ρ G H σv Q r) (t : Tr ρ G H ρ1 G1 H1) (w1 : Wd K ρ1 G1 H1 T1) : Post K W k ρ1 G1 H1 σv Q r := by
  cases r with
  | ok a T' => exact fun b ρ' G' H' u w z => h b ρ' G' H' (t.trans w1 u w) w (sh.sh t u.pre z)
  | ex x T' => exact fun cls d ρ' G' H' u w z => h cls d ρ' G' H' (t.trans w1 u w) w z
  | bad => exact h
/-- behind the first of two: where one stands, and what is still to be reached -/
def Mid (K : PySem.W.Frag) (W : WX) (k : Kd β α) (k2 : Kd δ γ) (ρ : List Addr) (G H : Hp) (σ : Env) (σv : L2.St) (Q : δ → Hp → Prop) (f : α → EM γ) (b : β) (H1 : Hp) : Prop :=
  ∃ ρ1 G1 T1 a, k ρ1 G1 H H1 b a ∧ Tr ρ G H ρ1 G1 H1 ∧ Wd K ρ1 G1 H1 T1 ∧ EnvR K ρ1 G1 H1 σ σv ∧ Post K W k2 ρ1 G1 H1 σv Q (f a σ T1)
theorem Post.bind {k2 : Kd δ γ} {Q : δ → Hp → Prop} {m : EM α} {f : α → EM γ} (sh : KSh k2) (er : EnvR K ρ G H σ σv) (h : Post K W k2 ρ G H σv Q (EM.bind m f σ T)) :
    Post K W k ρ G H σv (Mid K W k k2 ρ G H σ σv Q f) (m σ T) := by
  unfold EM.bind at h
  cases e : m σ T with
  | ok a T1 =>
    rw [e] at h
    intro b ρ1 G1 H1 t w z
    exact ⟨ρ1, G1, T1, a, z, t, w, er.tr t, Post.shift sh h t w⟩
  | ex x T1 =>
    rw [e] at h
    exact h
  | bad =>
    rw [e] at h
    exact h
end
theorem _root_.L2.PE.imp {X : Cx} {e : Expr} {t t' : TE} (h : PE X e t) (i : ∀ σ H Q, t' σ H Q → t σ H Q) : PE X e t' := ⟨fun pins s σ H Q I hw => h.run pins s σ H Q I (i σ H Q hw)⟩
theorem _root_.L2.PT.imp {X : Cx} {e : Expr} {t t' : TT} (h : PT X e t) (i : ∀ σ H Q, t' σ H Q → t σ H Q) : PT X e t' := ⟨fun pins s σ H Q I hw => h.run pins s σ H Q I (i σ H Q hw)⟩
theorem _root_.L2.PW.imp {X : Cx} {e : Expr} {t t' : TT} (h : PW X e t) (i : ∀ σ H Q, t' σ H Q → t σ H Q) : PW X e t' := ⟨fun wh pins s σ H Q I hw => h.run wh pins s σ H Q I (i σ H Q hw)⟩
theorem _root_.L2.PA.imp {X : Cx} {es : List Expr} {t t' : TA} (h : PA X es t) (i : ∀ σ H Q, t' σ H Q → t σ H Q) : PA X es t' := ⟨fun pos pins s σ H Q I hw => h.run pos pins s σ H Q I (i σ H Q hw)⟩
/-- where nothing is reached nothing is to be shown -/
theorem PE.bad {X : Cx} {e : Expr} {W : WX} {k : Kd V α} {m : EM α} (h : ∀ σ T, m σ T = .bad) : PE X e (RG X.K W k m) := ⟨fun pins s σ H Q I hw => by
  obtain ⟨ρ, G, T, σ', _, _, p⟩ := hw
  rw [h] at p
  exact p.elim⟩
theorem PT.bad {X : Cx} {e : Expr} {W : WX} {k : Kd Bool α} {m : EM α} (h : ∀ σ T, m σ T = .bad) : PT X e (RG X.K W k m) := ⟨fun pins s σ H Q I hw => by
  obtain ⟨ρ, G, T, σ', _, _, p⟩ := hw
  rw [h] at p
  exact p.elim⟩

/-! ### a frame and its module -/
structure Fit (X : Cx) (F : Fi) : Prop where
  N : X.N = F.N
  sc : X.env.scope = F.sc
  fn : X.fn = F.fn
  calm : X.calm = true
  nd : X.N.Nodup
def bltNames : List Str := ["len", "isinstance", "abs", "int", "str", "bool", "tuple", "list", "all", "any", "sum", "range", "enumerate", "reversed", "max", "min", "sorted", "repr", "divmod", "zip", "super"]
def spC (K : PySem.W.Frag) (C : CallT) (f : Str) : Sp := fun vs H Q E => ∃ ρ G T ds, Wd K ρ G H T ∧ Rps K ρ G vs ds ∧ Post K (fun cls d _ H' => E cls d H') (kV K) ρ G H [] Q (C f ds T)
structure Gx (X : Cx) (G : Gi) (C : CallT) : Prop where
  fn : ∀ f ∈ G.fn, ∃ k fa fd ps, FnOk X.prog X.w X.K X.mg X.base (L2N.CX X.prog X.w) k fa fd ps (spC X.K C f) ∧ Room k X.A ∧ X.mg f = some (.ref fa) ∧ PySem.W.keepIn X.K (.ref fa) = true ∧ Binds X.K fd ps []
  blt : ∀ x ∈ bltNames, X.mg x = none
  cst : ∀ x d, G.cst.lookup x = some d → ∃ u v, X.mg x = some u ∧ RelV v u ∧ ∀ ρ (Gh : Hp), Rp X.K ρ Gh v d
  un : X.A.units + 200 < cLine

section
variable {X : Cx} {F : Fi} {G : Gi} {C : CallT}
theorem ixOf_get : ∀ {N : List Str} {x : Str} {i : Nat}, ixOf x N = some i → N[i]? = some x
  | [], _, _, h => by cases h
  | y :: ys, x, i, h => by
    unfold ixOf at h
    split at h
    · rename_i e
      cases h
      simp [e]
    · cases e : ixOf x ys with
      | none => rw [e] at h; cases h
      | some j =>
        rw [e] at h
        have : j + 1 = i := by simpa using h
        subst this
        have q := ixOf_get e
        simpa using q
theorem visB_iff {sc : Scope} {x : Str} (h : visB sc x = true) : Vis sc x := by
  unfold visB at h
  split at h <;> first | exact .inl (by assumption) | exact .inr (.inl (by assumption)) | exact .inr (.inr (by assumption)) | cases h
theorem locB_iff {sc : Scope} {x : Str} (h : locB sc x = true) : Loc sc x := by
  unfold locB at h
  split at h <;> first | exact .inl (by assumption) | exact .inr (by assumption) | cases h
theorem slot_ok (fit : Fit X F) {x : Str} {i : Nat} (h : slot F x = some i) : X.N[i]? = some x ∧ Vis X.env.scope x := by
  unfold slot at h
  split at h
  · rename_i hv
    rw [fit.N, fit.sc]
    exact ⟨ixOf_get h, visB_iff hv⟩
  · cases h
theorem isDbg_ok {x : Str} (h : isDbg x = false) : (x == ("__debug__" : Str)) = false ∧ (x == ("__classdict__" : Str)) = false ∧ x ≠ "__name__" := by
  unfold isDbg at h
  simp only [Bool.or_eq_false_iff, decide_eq_false_iff_not] at h
  exact ⟨beq_eq_false_iff_ne.mpr h.1.1, beq_eq_false_iff_ne.mpr h.1.2, h.2⟩
theorem isGl_ok (fit : Fit X F) {x : Str} (h : isGl F.sc x = true) : Gl X x := by
  unfold isGl at h
  split at h
  · rename_i e
    show X.env.scope.names.lookup x = _
    rw [fit.sc]
    exact e
  · cases h

/-- values to look at from values frozen -/
theorem kF_kP {K : PySem.W.Frag} {ρ : List Addr} {G H0 H : Hp} {v : V} {d : D} (h : kF K ρ G H0 H v d) : kP K ρ G H0 H v d := .inl h
/-- a new list is only looked at -/
theorem Fresh.p {K : PySem.W.Frag} {ρ : List Addr} {G H0 H : Hp} {v : V} {d : D} (h : Fresh K ρ G H0 H v d) : PRel K ρ G H v d := by
  obtain ⟨a, vs, ds, e1, e2, h1, r, n, _, _⟩ := h
  exact .inr ⟨a, vs, ds, e1, e2, h1, r, n⟩
theorem kV.p {K : PySem.W.Frag} {ρ : List Addr} {G H0 H : Hp} {v : V} {r : D × Bool} (h : kV K ρ G H0 H v r) : PRel K ρ G H v r.1 := by
  unfold kV at h
  split at h
  · exact Fresh.p h
  · exact .inl h
/-- a value by its flag, frozen -/
theorem Post.froz {K : PySem.W.Frag} {W : WX} {ρ : List Addr} {Gh H : Hp} {σv : L2.St} {Q : VK} {m : EM (D × Bool)} {σ : Env} {T : Sto} (h : Post K W (kF K) ρ Gh H σv Q ((EM.bind m fun d => EM.pure d.1) σ T)) : Post K W (kV K) ρ Gh H σv Q (m σ T) := by
  unfold EM.bind at h
  cases e : m σ T with
  | ok r T1 =>
    rw [e] at h
    intro v ρ' G' H' t w z
    unfold kV at z
    split at z
    · obtain ⟨a, vs, ds, rfl, e2, h1, rr, n, g, f⟩ := z
      have w2 := w.frz h1 n g
      refine h _ ρ' (upd G' a (.lst vs)) H' (t.frz _ g f) w2 ?_
      show Rp K ρ' _ _ r.1
      rw [e2]
      exact .lst upd_same (Rps.mono (sub_frz _ g) (fun _ _ e => e) _ _ rr)
    · exact h _ ρ' G' H' t w z
  | ex x T1 => rw [e] at h; exact h
  | bad => rw [e] at h; exact h
/-- .. only looked at -/
theorem Post.look {K : PySem.W.Frag} {W : WX} {ρ : List Addr} {Gh H : Hp} {σv : L2.St} {Q : VK} {m : EM (D × Bool)} {σ : Env} {T : Sto} (h : Post K W (kP K) ρ Gh H σv Q ((EM.bind m fun d => EM.pure d.1) σ T)) : Post K W (kV K) ρ Gh H σv Q (m σ T) := by
  unfold EM.bind at h
  cases e : m σ T with
  | ok r T1 =>
    rw [e] at h
    exact fun v ρ' G' H' t w z => h _ ρ' G' H' t w z.p
  | ex x T1 => rw [e] at h; exact h
  | bad => rw [e] at h; exact h
end

/-- what is shown of the parts -/
structure Snd (G : Gi) (C : CallT) (R : Dn) : Prop where
  val : ∀ (X : Cx) (W : WX) (F : Fi) (e : Expr), Gx X G C → Fit X F → L2N.Takes X W → PE X e (RG X.K W (kV X.K) (R.val F e))
  tst : ∀ (X : Cx) (W : WX) (F : Fi) (e : Expr), Gx X G C → Fit X F → L2N.Takes X W → PT X e (RG X.K W kB (R.tst F e))
section
variable {X : Cx} {W : WX} {F : Fi} {G : Gi} {C : CallT} {R : Dn}
theorem pe_vE (S : Snd G C R) (g : Gx X G C) (fit : Fit X F) (tk : L2N.Takes X W) (e : Expr) : PE X e (RG X.K W (kF X.K) (vE R F e)) :=
  (S.val X W F e g fit tk).imp fun σv H Q ⟨ρ, Gh, T, σ, w, er, p⟩ => ⟨ρ, Gh, T, σ, w, er, p.froz⟩
theorem pe_vE' (S : Snd G C R) (g : Gx X G C) (fit : Fit X F) (tk : L2N.Takes X W) (e : Expr) : PE X e (RG X.K W (kP X.K) (vE R F e)) :=
  (S.val X W F e g fit tk).imp fun σv H Q ⟨ρ, Gh, T, σ, w, er, p⟩ => ⟨ρ, Gh, T, σ, w, er, p.look⟩
theorem pe_pVar (fit : Fit X F) {x : Str} {pos : Pos} {i : Nat} (hd : isDbg x = false) (hs : slot F x = some i) : PE X (.Name x pos) (RG X.K W (kP X.K) (pVar i)) := by
  obtain ⟨hN, hv⟩ := slot_ok fit hs
  obtain ⟨h1, h2, _⟩ := isDbg_ok hd
  refine (pe_var hN hv h1 h2).imp fun σv H Q ⟨ρ, Gh, T, σ, w, er, p⟩ => ?_
  unfold pVar at p
  split at p
  · rename_i d e
    obtain ⟨v, e2, r⟩ := er.fz e
    exact ⟨v, e2, p v ρ Gh H .refl w (.inl r)⟩
  · rename_i d e
    obtain ⟨v, e2, a, vs, ds, rfl, e3, h3, r, n, _⟩ := er.look e
    exact ⟨_, e2, p _ ρ Gh H .refl w (.inr ⟨a, vs, ds, rfl, e3, h3, r, n⟩)⟩
  · exact p.elim
theorem pe_vVar (fit : Fit X F) {x : Str} {pos : Pos} {i : Nat} (hd : isDbg x = false) (hs : slot F x = some i) : PE X (.Name x pos) (RG X.K W (kV X.K) (vVar i)) := by
  obtain ⟨hN, hv⟩ := slot_ok fit hs
  obtain ⟨h1, h2, _⟩ := isDbg_ok hd
  refine (pe_var hN hv h1 h2).imp fun σv H Q ⟨ρ, Gh, T, σ, w, er, p⟩ => ?_
  unfold vVar at p
  split at p
  · rename_i d e
    obtain ⟨v, e2, r⟩ := er.fz e
    exact ⟨v, e2, p v ρ Gh H .refl w r⟩
  · exact p.elim
theorem pe_pE (S : Snd G C R) (g : Gx X G C) (fit : Fit X F) (tk : L2N.Takes X W) (e : Expr) : PE X e (RG X.K W (kP X.K) (pE R F e)) := by
  cases e
  case Name x pos =>
    have e0 : pE R F (.Name x pos) = if isDbg x then EM.bad else match slot F x with
      | some i => pVar i
      | none => vE R F (.Name x pos) := rfl
    rw [e0]
    cases hd : isDbg x with
    | true => exact PE.bad fun _ _ => rfl
    | false =>
      rw [if_neg Bool.false_ne_true]
      cases hs : slot F x with
      | some i => exact pe_pVar fit hd hs
      | none => exact pe_vE' S g fit tk _
  all_goals exact pe_vE' S g fit tk _
theorem star_of {e : Expr} (h : notStar e = true) (es : List Expr) (env : PySem.Env) : starEach (e :: es) env = (false, eval e env) :: starEach es env := by
  cases e <;> first | rfl | cases h
theorem pa_aL (S : Snd G C R) (g : Gx X G C) (fit : Fit X F) (tk : L2N.Takes X W) : ∀ es : List Expr, es.all notStar = true → PA X es (RG X.K W (kA X.K) (aL R F es))
  | [], _ => pa_nil.imp fun σv H Q ⟨ρ, Gh, T, σ, w, er, p⟩ => p [] ρ Gh H .refl w .nil
  | e :: es, hn => by
    rw [List.all_cons, Bool.and_eq_true] at hn
    unfold aL
    refine (pa_cons (pe_vE S g fit tk e) (pa_aL S g fit tk es hn.2) (star_of hn.1 es X.env)).imp fun σv H Q ⟨ρ, Gh, T, σ, w, er, p⟩ => ?_
    refine ⟨ρ, Gh, T, σ, w, er, (Post.bind kA_sh er p).mono ?_⟩
    rintro v H1 ⟨ρ1, G1, T1, d, kd, t1, w1, er1, p1⟩
    refine ⟨ρ1, G1, T1, σ, w1, er1, (Post.bind kA_sh er1 p1).mono ?_⟩
    rintro vs H2 ⟨ρ2, G2, T2, ds, kds, t2, w2, er2, p2⟩
    exact p2 _ ρ2 G2 H2 .refl w2 (.cons (Rp.tr t2 kd) kds)
theorem pa_aE (S : Snd G C R) (g : Gx X G C) (fit : Fit X F) (tk : L2N.Takes X W) (es : List Expr) : PA X es (RG X.K W (kA X.K) (aE R F es)) := by
  unfold aE
  cases hs : es.all notStar with
  | false => exact ⟨fun pos pins s σ H Q I hw => by
      obtain ⟨ρ, Gh, T, σ', _, _, p⟩ := hw
      exact p.elim⟩
  | true => exact pa_aL S g fit tk es hs
theorem star_back : ∀ {es : List Expr}, es.all notStar = true → ∀ env pos, (backTo pos (starEach es env)).any (·.1) = false
  | [], _, _, _ => rfl
  | e :: es, h, env, pos => by
    rw [List.all_cons, Bool.and_eq_true] at h
    rw [star_of h.1]
    show (false || (backTo pos (starEach es env)).any (·.1)) = false
    rw [Bool.false_or]
    exact star_back h.2 env pos
end
end Mi


set_option Elab.async false
set_option linter.all false
set_option maxRecDepth 100000
/-! MiF: items, slices, lengths, types, built-ins on data. -/
namespace Mi
open PySem PySem.Spec PyProof.Rows L2
section
variable {K : PySem.W.Frag} {ρ : List Addr} {G H : Hp}
theorem atI_of {vs : List V} {ds : List D} {i : Int} {j : Nat} {d : D} (r : Rps K ρ G vs ds) (h1 : ixD ds.length i = some j) (h2 : ds[j]? = some d) : ∃ v, atI vs i = some v ∧ Rp K ρ G v d := by
  obtain ⟨v, e, q⟩ := r.get h2
  refine ⟨v, ?_, q⟩
  unfold atI
  rw [r.length]
  have : ixN ds.length i = some j := h1
  rw [this]
  exact e
theorem getE_str {l : List Nat} {i : Int} {j c : Nat} (h1 : ixD l.length i = some j) (h2 : l[j]? = some c) : atI l i = some c := by
  unfold atI
  have : ixN l.length i = some j := h1
  rw [this]
  exact h2
end
section
variable {X : Cx}
/-- the store object at n that is a list to read -/
theorem Wd.seq {K : PySem.W.Frag} {ρ : List Addr} {G H : Hp} {T : Sto} (w : Wd K ρ G H T) {n : Nat} {a : Addr} {ds : List D} (hr : ρ[n]? = some a) (hT : T[n]? = some (.lst ds) ∨ T[n]? = some (.frz ds)) : ∃ vs, SqL K H a vs ∧ Rps K ρ G vs ds := by
  rcases hT with hT | hT
  · obtain ⟨b, e, vs, h1, r⟩ := w.sto n _ hT
    rw [hr] at e
    cases e
    exact ⟨vs, SqL.of h1, r⟩
  · obtain ⟨b, e, o, vs, h1, r⟩ := w.sto n _ hT
    rw [hr] at e
    cases e
    exact ⟨vs, .inl (.inr ⟨o, h1⟩), r⟩
def rIxM (X : Cx) : R2 := fun x y H Q => ∃ ρ G T a b d, Wd X.K ρ G H T ∧ PRel X.K ρ G H x a ∧ PRel X.K ρ G H y b ∧ itemM a b [] T = .ok d T ∧ ∀ v, Rp X.K ρ G v d → Q v H
theorem ixM : IxR X (rIxM X) := by
  intro value slice pins s σ H x y v u Q I rx ry h hs
  obtain ⟨ρ, G, T, a, b, d, w, pa, pb, e, q⟩ := h
  have lists : ∀ {p : Addr} {vs : List V} {ds : List D}, x = .ref p → SqL X.K H p vs → Rps X.K ρ G vs ds → itemD (.lst ds) b = some d → wpAny (model X.prog X.w) X.A (subscriptTail value slice v u) (EP X pins σ Q) X.xe s := fun {p vs ds} ex hq r e => by
    cases b with
    | int i =>
      cases pb.i
      have e' : ((ixD ds.length i).bind fun j => ds[j]?) = some d := e
      cases e1 : ixD ds.length i with
      | none => rw [e1] at e'; cases e'
      | some j =>
        rw [e1] at e'
        obtain ⟨w1, h1, r1⟩ := atI_of r e1 e'
        exact ix_list value slice pins s σ H x _ v u Q I rx ry ⟨p, vs, i, w1, ex, rfl, hq, h1, q w1 r1⟩ hs
    | _ => cases e
  unfold itemM at e
  split at e
  · rename_i n
    obtain ⟨p, rfl, hr⟩ := pa.o
    split at e
    · rename_i ds hT
      split at e
      · rename_i d' e2
        cases e
        obtain ⟨vs, hq, r⟩ := w.seq hr (.inl hT)
        exact lists rfl hq r e2
      · cases e
    · cases e
  · split at e
    · rename_i d' e2
      cases e
      cases a with
      | lst ds =>
        obtain ⟨p, vs, rfl, h1, r⟩ := pa.l w.sub
        exact lists rfl (SqL.of h1) r e2
      | tup ds =>
        obtain ⟨p, vs, rfl, h1, r⟩ := pa.t
        cases b with
        | int i =>
          cases pb.i
          have e' : ((ixD ds.length i).bind fun j => ds[j]?) = some d := e2
          cases e1 : ixD ds.length i with
          | none => rw [e1] at e'; cases e'
          | some j =>
            rw [e1] at e'
            obtain ⟨w1, h2, r1⟩ := atI_of r e1 e'
            exact ix_tup value slice pins s σ H _ _ v u Q I rx ry ⟨p, vs, i, w1, rfl, rfl, SqT.sub w.sub h1, h2, q w1 r1⟩ hs
        | _ => cases e2
      | str z =>
        cases pa.s
        cases b with
        | int i =>
          cases pb.i
          have e' : (if fits z.length = true then (ixD z.length i).bind fun j => z.cps.toList[j]?.map fun c => D.str ⟨#[c]⟩ else none) = some d := e2
          split at e'
          · rename_i hf
            have hl : z.length = z.cps.toList.length := by simp [Str.length]
            cases e1 : ixD z.length i with
            | none => rw [e1] at e'; cases e'
            | some j =>
              rw [e1] at e'
              have e3 : z.cps.toList[j]?.map (fun c => D.str ⟨#[c]⟩) = some d := e'
              cases e4 : z.cps.toList[j]? with
              | none => rw [e4] at e3; cases e3
              | some c =>
                rw [e4] at e3
                have e5 : D.str ⟨#[c]⟩ = d := by simpa using e3
                subst e5
                rw [hl] at e1
                exact ix_str value slice pins s σ H _ _ v u Q I rx ry ⟨z, i, c, rfl, rfl, fits_iff.mp hf, getE_str e1 e4, q _ (.str _)⟩ hs
          · cases e'
        | _ => cases e2
      | _ => cases b <;> cases e2
    · cases e

def rSlM (X : Cx) : V → Option Int → Option Int → Hp → VK → Prop := fun x lo hi H Q => ∃ ρ G T a d, Wd X.K ρ G H T ∧ PRel X.K ρ G H x a ∧ sliceD a lo hi = some d ∧ Done X.K ρ G H T Q (d, isLst d)
theorem cutL_whole {α : Type} {xs : List α} {lo hi : Option Int} (h : HT.sIx xs.length 0 lo = 0 ∧ HT.sIx xs.length xs.length hi = xs.length) : cutL xs lo hi = xs := by
  unfold cutL
  rw [h.1, h.2, List.drop_zero, Nat.sub_zero, List.take_length]
theorem slM : SlR X (rSlM X) := by
  intro pins s σ H x v vl vu lo hi sl Q I rx hs pl pu h
  obtain ⟨ρ, G, T, a, d, w, pa, e, q⟩ := h
  cases a with
  | tup ds =>
    cases e
    obtain ⟨p, vs, rfl, h1, r⟩ := pa.t
    refine sl_tupA pins s σ H _ v vl vu lo hi sl Q I rx hs pl pu ⟨p, vs, rfl, SqT.sub w.sub h1, fun z => ?_, fun z p' hp => Done.tup q w (r.cut lo hi) hp⟩
    refine q.frozen w (.tup h1 ?_)
    rw [r.length] at z
    rw [cutL_whole z]
    exact r
  | lst ds =>
    cases e
    obtain ⟨p, vs, rfl, h1, r⟩ := pa.l w.sub
    exact sl_list pins s σ H _ v vl vu lo hi sl Q I rx hs pl pu ⟨p, vs, rfl, SqL.of h1, fun p' hp => Done.lst q w (r.cut lo hi) hp⟩
  | str z =>
    cases pa.s
    have e' : (if fits z.length = true then some (D.str ⟨(cutL z.cps.toList lo hi).toArray⟩) else none) = some d := e
    split at e'
    · rename_i hf
      have e5 : D.str ⟨(cutL z.cps.toList lo hi).toArray⟩ = d := by simpa using e'
      subst e5
      refine sl_str pins s σ H _ v vl vu lo hi sl Q I rx hs pl pu ⟨z, rfl, fits_iff.mp hf, ?_⟩
      have ec : cutS z lo hi = ⟨(cutL z.cps.toList lo hi).toArray⟩ := by
        unfold cutS cutL
        have hl : z.length = z.cps.toList.length := by simp [Str.length]
        rw [hl]
      rw [ec]
      exact q.frozen w (.str _)
    · cases e'
  | _ => cases e

/-! ### len -/
theorem lenR : CallR X (.builtin "len") (fun xs H Q => ∃ x ρ G T a d, xs = [x] ∧ Wd X.K ρ G H T ∧ PRel X.K ρ G H x a ∧ lenM a [] T = .ok d T ∧ ∀ v, Rp X.K ρ G v d → Q v H) := by
  intro pins s σ H xs us Q I r h
  obtain ⟨x, ρ, G, T, a, d, rfl, w, pa, e, q⟩ := h
  unfold lenM at e
  split at e
  · rename_i n
    obtain ⟨p, rfl, hr⟩ := pa.o
    split at e
    · rename_i ds hT
      cases e
      obtain ⟨vs, hq, rr⟩ := w.seq hr (.inl hT)
      refine call_len_seq pins s σ H _ us Q I r ⟨p, vs, rfl, .inl hq, ?_⟩
      rw [rr.length]
      exact q _ (.int _)
    · cases e
  · split at e
    · rename_i k e2
      cases e
      cases a with
      | lst ds =>
        obtain ⟨p, vs, rfl, h1, rr⟩ := pa.l w.sub
        cases e2
        refine call_len_seq pins s σ H _ us Q I r ⟨p, vs, rfl, .inl (SqL.of h1), ?_⟩
        rw [rr.length]
        exact q _ (.int _)
      | tup ds =>
        obtain ⟨p, vs, rfl, h1, rr⟩ := pa.t
        cases e2
        refine call_len_seq pins s σ H _ us Q I r ⟨p, vs, rfl, .inr (SqT.sub w.sub h1), ?_⟩
        rw [rr.length]
        exact q _ (.int _)
      | str z =>
        cases pa.s
        have e' : (if fits z.length = true then some z.length else none) = some k := e2
        split at e'
        · rename_i hf
          have e5 : z.length = k := by simpa using e'
          subst e5
          exact call_len_str pins s σ H _ us Q I r ⟨z, rfl, fits_iff.mp hf, q _ (.int _)⟩
        · cases e'
      | _ => cases e2
    · cases e

/-! ### isinstance -/
def tyS : D → String
  | .non => "NoneType"
  | .bl _ => "bool"
  | .int _ => "int"
  | .str _ => "str"
  | .tup _ => "tuple"
  | .lst _ => "list"
  | _ => ""
theorem tyD {K : PySem.W.Frag} {ρ : List Addr} {G H : Hp} {v : V} {d : D} (s : Sub G H) (h : PRel K ρ G H v d) (n : noObj d = true) :
    ∃ t, TyX K H v (.type t) ∧ t = tyS d ∧ (∀ kvs, d ≠ .dct kvs) := by
  cases d with
  | non => cases h.n; exact ⟨_, .base .non, rfl, fun _ z => nomatch z⟩
  | bl b => cases h.b; exact ⟨_, .base (.bl _), rfl, fun _ z => nomatch z⟩
  | int i => cases h.i; exact ⟨_, .base (.int _), rfl, fun _ z => nomatch z⟩
  | str z => cases h.s; exact ⟨_, .base (.str _), rfl, fun _ z => nomatch z⟩
  | tup ds =>
    obtain ⟨a, vs, rfl, h1, r⟩ := h.t
    refine ⟨_, ?_, rfl, fun _ z => nomatch z⟩
    rcases SqT.sub s h1 with (h2 | ⟨o, h2⟩) | ⟨o, its, n', hk, hc, _⟩
    · exact .base (.tup h2)
    · exact .fTuple h2
    · exact .kTuple hk hc
  | lst ds =>
    obtain ⟨a, vs, rfl, h1, r⟩ := h.l s
    exact ⟨_, .base (.lst h1), rfl, fun _ z => nomatch z⟩
  | dct kvs => exact (h.d).elim
  | obj m => cases n
/-- the class's name -/
def tyN (T : Str) : String := if T = ("int" : Str) then "int" else if T = ("bool" : Str) then "bool" else if T = ("str" : Str) then "str" else if T = ("tuple" : Str) then "tuple" else "list"
theorem isi_kit {T : Str} {d : D} {b : Bool} {t : String} (n : noObj d = true) (e : isiD T d = some b) (nd : ∀ kvs, d ≠ .dct kvs)
    (et : t = tyS d) : kitB t (tyN T) = some b := by
  subst et
  unfold isiD at e
  unfold tyN
  split at e
  · rename_i h; subst h
    cases d <;> first | (exact absurd rfl (nd _)) | (cases n; done) | (cases e; kernel_rfl)
  · split at e
    · rename_i h0 h; subst h
      cases d <;> first | (exact absurd rfl (nd _)) | (cases n; done) | (cases e; kernel_rfl)
    · split at e
      · rename_i h0 h1 h; subst h
        cases d <;> first | (exact absurd rfl (nd _)) | (cases n; done) | (cases e; kernel_rfl)
      · split at e
        · rename_i h0 h1 h2 h; subst h
          cases d <;> first | (exact absurd rfl (nd _)) | (cases n; done) | (cases e; kernel_rfl)
        · split at e
          · rename_i h0 h1 h2 h3 h; subst h
            cases d <;> first | (exact absurd rfl (nd _)) | (cases n; done) | (cases e; kernel_rfl)
          · cases e
theorem isi_boot {T : Str} {d : D} {b : Bool} (e : isiD T d = some b) : bootBuiltins T = some (.type (tyN T)) ∧ T ∈ bltNames := by
  unfold isiD at e
  unfold tyN
  split at e
  · rename_i h; subst h; exact ⟨by decide +kernel, by decide +kernel⟩
  · split at e
    · rename_i h0 h; subst h; exact ⟨by decide +kernel, by decide +kernel⟩
    · split at e
      · rename_i h0 h1 h; subst h; exact ⟨by decide +kernel, by decide +kernel⟩
      · split at e
        · rename_i h0 h1 h2 h; subst h; exact ⟨by decide +kernel, by decide +kernel⟩
        · split at e
          · rename_i h0 h1 h2 h3 h; subst h; exact ⟨by decide +kernel, by decide +kernel⟩
          · cases e
end
end Mi


set_option Elab.async false
set_option linter.all false
set_option maxRecDepth 100000
/-! MiG: the steps of expressions (comprehensions apart). -/
namespace Mi
open PySem PySem.Spec PyProof.Rows L2
section
variable {X : Cx}
/-- a one-argument built-in by values -/
def rBlt (X : Cx) (f : Str) : List V → Hp → VK → Prop := fun xs H Q => ∃ x ρ G T d r, xs = [x] ∧ Wd X.K ρ G H T ∧ PRel X.K ρ G H x d ∧ bltD f [d] = some r ∧ Done X.K ρ G H T Q r
theorem cr_of {f g : Value} {r r' : List V → Hp → VK → Prop} (h : CallR X f r) (i : ∀ xs H Q, r' xs H Q → r xs H Q) : CallR X f r' := fun pins s σ H xs us Q I rv hq => h pins s σ H xs us Q I rv (i xs H Q hq)
theorem bltR_abs : CallR X (.builtin "abs") (rBlt X "abs") := cr_of (g := .none) call_abs fun xs H Q ⟨x, ρ, G, T, d, r, ex, w, p, e, q⟩ => by
  subst ex
  cases d <;> first | (cases e; done) | skip
  cases p.i
  cases e
  exact ⟨_, rfl, q.frozen w (.int _)⟩
theorem bltR_int : CallR X (.type "int") (rBlt X "int") := cr_of (g := .none) call_int1 fun xs H Q ⟨x, ρ, G, T, d, r, ex, w, p, e, q⟩ => by
  subst ex
  cases d <;> first | (cases e; done) | skip
  · cases p.b
    cases e
    exact .inr ⟨_, rfl, q.frozen w (.int _)⟩
  · cases p.i
    cases e
    exact .inl ⟨_, rfl, q.frozen w (.int _)⟩
theorem bltR_bool : CallR X (.type "bool") (rBlt X "bool") := cr_of (g := .none) call_bool1 fun xs H Q ⟨x, ρ, G, T, d, r, ex, w, p, e, q⟩ => by
  subst ex
  cases d <;> first | (cases e; done) | skip
  · cases p.b
    cases e
    exact .inr ⟨_, rfl, q.frozen w (.bl _)⟩
  · cases p.i
    cases e
    exact .inl ⟨_, rfl, q.frozen w (.bl _)⟩
theorem bltR_tuple : CallR X (.type "tuple") (rBlt X "tuple") := cr_of (g := .none) call_tuple_of fun xs H Q ⟨x, ρ, G, T, d, r, ex, w, p, e, q⟩ => by
  subst ex
  cases d <;> first | (cases e; done) | skip
  · obtain ⟨a, vs, rfl, h1, rr⟩ := p.t
    cases e
    exact ⟨a, vs, rfl, .inr ⟨SqT.sub w.sub h1, q.frozen w (.tup h1 rr)⟩⟩
  · obtain ⟨a, vs, rfl, h1, rr⟩ := p.l w.sub
    cases e
    exact ⟨a, vs, rfl, .inl ⟨SqL.of h1, fun l hl => Done.tup q w rr hl⟩⟩
theorem bltR_all (hc : X.calm = true) : CallR X (.builtin "all") (rBlt X "all") := cr_of (g := .none) (cr_all hc) fun xs H Q ⟨x, ρ, G, T, d, r, ex, w, p, e, q⟩ => by
  subst ex
  cases d <;> first | (cases e; done) | skip
  rename_i ds
  obtain ⟨a, vs, rfl, h1, rr⟩ := p.l w.sub
  have e' : (boolsOf ds).map (fun bs => (D.bl (bs.all id), false)) = some r := e
  cases eb : boolsOf ds with
  | none => rw [eb] at e'; cases e'
  | some bs =>
    rw [eb] at e'
    have e2 : (D.bl (bs.all id), false) = r := by simpa using e'
    subst e2
    refine ⟨a, bs, rfl, SqL.of (by rw [h1, rr.of_bools eb]), q.frozen w (.bl _)⟩
theorem bltR_any (hc : X.calm = true) : CallR X (.builtin "any") (rBlt X "any") := cr_of (g := .none) (cr_any hc) fun xs H Q ⟨x, ρ, G, T, d, r, ex, w, p, e, q⟩ => by
  subst ex
  cases d <;> first | (cases e; done) | skip
  rename_i ds
  obtain ⟨a, vs, rfl, h1, rr⟩ := p.l w.sub
  have e' : (boolsOf ds).map (fun bs => (D.bl (bs.any id), false)) = some r := e
  cases eb : boolsOf ds with
  | none => rw [eb] at e'; cases e'
  | some bs =>
    rw [eb] at e'
    have e2 : (D.bl (bs.any id), false) = r := by simpa using e'
    subst e2
    refine ⟨a, bs, rfl, SqL.of (by rw [h1, rr.of_bools eb]), q.frozen w (.bl _)⟩
theorem bltR_sum (hc : X.calm = true) : CallR X (.builtin "sum") (rBlt X "sum") := cr_of (g := .none) (cr_sum hc) fun xs H Q ⟨x, ρ, G, T, d, r, ex, w, p, e, q⟩ => by
  subst ex
  cases d <;> first | (cases e; done) | skip
  rename_i ds
  obtain ⟨a, vs, rfl, h1, rr⟩ := p.l w.sub
  have e' : (intsOf ds).map (fun ns => (D.int ns.sum, false)) = some r := e
  cases eb : intsOf ds with
  | none => rw [eb] at e'; cases e'
  | some ns =>
    rw [eb] at e'
    have e2 : (D.int ns.sum, false) = r := by simpa using e'
    subst e2
    refine ⟨a, ns, rfl, SqL.of (by rw [h1, rr.of_ints eb]), q.frozen w (.int _)⟩
theorem listR : CallR X (.type "list") (fun xs H Q => ∃ x ρ G T d r, xs = [x] ∧ Wd X.K ρ G H T ∧ PRel X.K ρ G H x d ∧ listM d [] T = .ok r T ∧ Done X.K ρ G H T Q r) := cr_of (g := .none) call_list_of fun xs H Q ⟨x, ρ, G, T, d, r, ex, w, p, e, q⟩ => by
  subst ex
  cases d <;> first | (cases e; done) | skip
  · obtain ⟨a, vs, rfl, h1, rr⟩ := p.t
    cases e
    exact ⟨a, vs, rfl, .inr (SqT.sub w.sub h1), fun l hl => Done.lst q w rr hl⟩
  · obtain ⟨a, vs, rfl, h1, rr⟩ := p.l w.sub
    cases e
    exact ⟨a, vs, rfl, .inl (SqL.of h1), fun l hl => Done.lst q w rr hl⟩
  · rename_i n
    obtain ⟨a, rfl, hr⟩ := p.o
    unfold listM at e
    simp only at e
    split at e
    · rename_i ds hT
      cases e
      obtain ⟨vs, hq, rr⟩ := w.seq hr (.inr hT)
      exact ⟨a, vs, rfl, .inl hq, fun l hl => Done.lst q w rr hl⟩
    · cases e
end

section
variable {X : Cx} {W : WX} {F : Fi} {G : Gi} {C : CallT} {R : Dn}
theorem ok_pure {α β : Type} {K : PySem.W.Frag} {k : Kd β α} {ρ : List Addr} {Gh H : Hp} {σv : L2.St} {σ : Env} {T : Sto} {Q : β → Hp → Prop} {a : α} {b : β} (h : Post K W k ρ Gh H σv Q ((EM.pure a : EM α) σ T)) (w : Wd K ρ Gh H T) (z : k ρ Gh H H b a) : Q b H :=
  h b ρ Gh H .refl w z
theorem ok_lift {α β γ : Type} {K : PySem.W.Frag} {k : Kd β α} {ρ : List Addr} {Gh H : Hp} {σv : L2.St} {σ : Env} {T : Sto} {Q : β → Hp → Prop} {o : Option γ} {f : γ → EM α} (h : Post K W k ρ Gh H σv Q (EM.bind (EM.lift o) f σ T)) : ∃ c, o = some c ∧ Post K W k ρ Gh H σv Q (f c σ T) := by
  cases o with
  | none => exact (show False from h).elim
  | some c => exact ⟨c, rfl, h⟩
theorem ok_lift1 {α β : Type} {K : PySem.W.Frag} {k : Kd β α} {ρ : List Addr} {Gh H : Hp} {σv : L2.St} {σ : Env} {T : Sto} {Q : β → Hp → Prop} {o : Option α} (h : Post K W k ρ Gh H σv Q (EM.lift o σ T)) : ∃ c, o = some c ∧ Post K W k ρ Gh H σv Q (.ok c T) := by
  cases o with
  | none => exact (show False from h).elim
  | some c => exact ⟨c, rfl, h⟩
theorem ok_done {ρ : List Addr} {Gh H : Hp} {σv : L2.St} {σ : Env} {T : Sto} {Q : VK} {r : D × Bool} (h : Post X.K W (kV X.K) ρ Gh H σv Q ((EM.pure r : EM (D × Bool)) σ T)) : Done X.K ρ Gh H T Q r :=
  fun v ρ' G' H' t w z => h v ρ' G' H' t w z
theorem st_const (c : Const) {j pos} : PE X (.Constant c j pos) (RG X.K W (kV X.K) (EM.bind (EM.lift (constD c)) fun d => EM.pure (d, false))) := by
  cases c
  case none => exact pe_non.imp fun σv H Q ⟨ρ, Gh, T, σ, w, er, p⟩ => p .non ρ Gh H .refl w .non
  case bool b => exact pe_bl.imp fun σv H Q ⟨ρ, Gh, T, σ, w, er, p⟩ => p (.bl b) ρ Gh H .refl w (.bl b)
  case int i => exact pe_int.imp fun σv H Q ⟨ρ, Gh, T, σ, w, er, p⟩ => p (.int i) ρ Gh H .refl w (.int i)
  case str s => exact pe_str.imp fun σv H Q ⟨ρ, Gh, T, σ, w, er, p⟩ => p (.str s) ρ Gh H .refl w (.str s)
  all_goals exact PE.bad fun _ _ => rfl
theorem st_name (g : Gx X G C) (fit : Fit X F) (x : Str) (pos : Pos) : PE X (.Name x pos) (RG X.K W (kV X.K) (if isDbg x then EM.bad else (match slot F x with
    | some i => vVar i
    | none => if isGl F.sc x then EM.bind (EM.lift (G.cst.lookup x)) fun d => EM.pure (d, false) else EM.bad))) := by
  cases hd : isDbg x with
  | true => exact PE.bad fun _ _ => rfl
  | false =>
    rw [if_neg Bool.false_ne_true]
    cases hs : slot F x with
    | some i => exact pe_vVar fit hd hs
    | none =>
      show PE X _ (RG X.K W (kV X.K) (if isGl F.sc x then EM.bind (EM.lift (G.cst.lookup x)) fun d => EM.pure (d, false) else EM.bad))
      cases hg : isGl F.sc x with
      | false => exact PE.bad fun _ _ => rfl
      | true =>
        rw [if_pos rfl]
        cases hc : G.cst.lookup x with
        | none => exact PE.bad fun _ _ => rfl
        | some d =>
          obtain ⟨u, v, hm, r, hr⟩ := g.cst x d hc
          exact (pe_glob (isGl_ok fit hg) hm r (isDbg_ok hd).1).imp fun σv H Q ⟨ρ, Gh, T, σ, w, er, p⟩ => p v ρ Gh H .refl w (hr ρ Gh)
theorem st_bin (S : Snd G C R) (g : Gx X G C) (fit : Fit X F) (tk : L2N.Takes X W) (a : Expr) (op : Operator) (b : Expr) (pos : Pos) :
    PE X (.BinOp a op b pos) (RG X.K W (kV X.K) (EM.bind (pE R F a) fun x => EM.bind (pE R F b) fun y => EM.bind (EM.lift (binD op x y)) fun d => EM.pure (d, isLst d))) := by
  refine (pe_op (opBin op) (pe_pE S g fit tk a) (pe_pE S g fit tk b)).imp fun σv H Q ⟨ρ, Gh, T, σ, w, er, p⟩ => ?_
  refine ⟨ρ, Gh, T, σ, w, er, (Post.bind kV_sh er p).mono ?_⟩
  rintro x H1 ⟨ρ1, G1, T1, d1, k1, t1, w1, er1, p1⟩
  refine ⟨ρ1, G1, T1, σ, w1, er1, (Post.bind kV_sh er1 p1).mono ?_⟩
  rintro y H2 ⟨ρ2, G2, T2, d2, k2, t2, w2, er2, p2⟩
  obtain ⟨d, e, p3⟩ := ok_lift p2
  exact ⟨ρ2, G2, T2, d1, d2, d, w2, PRel.tr t2 k1, k2, e, ok_done p3⟩
theorem st_neg (S : Snd G C R) (g : Gx X G C) (fit : Fit X F) (tk : L2N.Takes X W) (a : Expr) (pos : Pos) :
    PE X (.UnaryOp .USub a pos) (RG X.K W (kV X.K) (EM.bind (vE R F a) fun x => match x with
    | .int i => EM.pure (.int (-i), false)
    | _ => EM.bad)) := by
  refine (pe_un un_neg (pe_vE S g fit tk a)).imp fun σv H Q ⟨ρ, Gh, T, σ, w, er, p⟩ => ?_
  refine ⟨ρ, Gh, T, σ, w, er, (Post.bind kV_sh er p).mono ?_⟩
  rintro x H1 ⟨ρ1, G1, T1, d1, k1, t1, w1, er1, p1⟩
  cases d1 <;> first | exact (show False from p1).elim | skip
  cases Rp.i k1
  exact ⟨_, rfl, ok_pure p1 w1 (.int _)⟩
theorem st_not (S : Snd G C R) (g : Gx X G C) (fit : Fit X F) (tk : L2N.Takes X W) (a : Expr) (pos : Pos) :
    PE X (.UnaryOp .Not a pos) (RG X.K W (kV X.K) (EM.bind (pE R F a) fun x => EM.bind (EM.lift (truD x)) fun b => EM.pure (.bl (!b), false))) := by
  refine (pe_notT (pe_pE S g fit tk a)).imp fun σv H Q ⟨ρ, Gh, T, σ, w, er, p⟩ => ?_
  refine ⟨ρ, Gh, T, σ, w, er, (Post.bind kV_sh er p).mono ?_⟩
  rintro x H1 ⟨ρ1, G1, T1, d1, k1, t1, w1, er1, p1⟩
  obtain ⟨b, e, p2⟩ := ok_lift p1
  exact ⟨b, truV w1.sub k1 e, ok_pure p2 w1 (.bl _)⟩
theorem st_and (S : Snd G C R) (g : Gx X G C) (fit : Fit X F) (tk : L2N.Takes X W) (pos : Pos) : ∀ es : List Expr, PE X (.BoolOp .And es pos) (RG X.K W (kV X.K) (vAnd R F es))
  | [] => PE.bad fun _ _ => rfl
  | [e] => (pe_one (pe_vE S g fit tk e)).imp fun σv H Q ⟨ρ, Gh, T, σ, w, er, p⟩ => by
    refine ⟨ρ, Gh, T, σ, w, er, (Post.bind kV_sh er p).mono ?_⟩
    rintro x H1 ⟨ρ1, G1, T1, d1, k1, t1, w1, er1, p1⟩
    exact ok_pure p1 w1 k1
  | e :: e2 :: es => by
    refine (pe_andT (pe_vE S g fit tk e) (st_and S g fit tk pos (e2 :: es))).imp fun σv H Q ⟨ρ, Gh, T, σ, w, er, p⟩ => ?_
    refine ⟨ρ, Gh, T, σ, w, er, (Post.bind kV_sh er p).mono ?_⟩
    rintro x H1 ⟨ρ1, G1, T1, d1, k1, t1, w1, er1, p1⟩
    obtain ⟨b, e, p2⟩ := ok_lift p1
    refine ⟨b, truV w1.sub (.inl k1) e, ?_⟩
    cases b with
    | true => exact ⟨ρ1, G1, T1, σ, w1, er1, p2⟩
    | false => exact ok_pure (σ := σ) p2 w1 k1
theorem st_or (S : Snd G C R) (g : Gx X G C) (fit : Fit X F) (tk : L2N.Takes X W) (pos : Pos) : ∀ es : List Expr, PE X (.BoolOp .Or es pos) (RG X.K W (kV X.K) (vOr R F es))
  | [] => PE.bad fun _ _ => rfl
  | [e] => (pe_one (pe_vE S g fit tk e)).imp fun σv H Q ⟨ρ, Gh, T, σ, w, er, p⟩ => by
    refine ⟨ρ, Gh, T, σ, w, er, (Post.bind kV_sh er p).mono ?_⟩
    rintro x H1 ⟨ρ1, G1, T1, d1, k1, t1, w1, er1, p1⟩
    exact ok_pure p1 w1 k1
  | e :: e2 :: es => by
    refine (pe_orT (pe_vE S g fit tk e) (st_or S g fit tk pos (e2 :: es))).imp fun σv H Q ⟨ρ, Gh, T, σ, w, er, p⟩ => ?_
    refine ⟨ρ, Gh, T, σ, w, er, (Post.bind kV_sh er p).mono ?_⟩
    rintro x H1 ⟨ρ1, G1, T1, d1, k1, t1, w1, er1, p1⟩
    obtain ⟨b, e, p2⟩ := ok_lift p1
    refine ⟨b, truV w1.sub (.inl k1) e, ?_⟩
    cases b with
    | true => exact ok_pure (σ := σ) p2 w1 k1
    | false => exact ⟨ρ1, G1, T1, σ, w1, er1, p2⟩
theorem noMark {b : Expr} (h : notSet b = true) (op : CmpOp) : behindInMarks op b = false := by
  cases b <;> first | rfl | cases h
/-- a comparison reaches its truth -/
theorem rd_cmp (S : Snd G C R) (g : Gx X G C) (fit : Fit X F) (tk : L2N.Takes X W) (a : Expr) (op : CmpOp) (b : Expr) {σv : L2.St} {H : Hp} {Q : Bool → Hp → Prop} (h : RG X.K W kB (cM R F op a b) σv H Q) :
    tOp (rC X (cmpD op)) (RG X.K W (kP X.K) (pE R F a)) (RG X.K W (kP X.K) (pE R F b)) σv H (fun v H' => ∃ k, v = .bl k ∧ Q k H') := by
  obtain ⟨ρ, Gh, T, σ, w, er, p⟩ := h
  refine ⟨ρ, Gh, T, σ, w, er, (Post.bind kB_sh er p).mono ?_⟩
  rintro x H1 ⟨ρ1, G1, T1, d1, k1, t1, w1, er1, p1⟩
  refine ⟨ρ1, G1, T1, σ, w1, er1, (Post.bind kB_sh er1 p1).mono ?_⟩
  rintro y H2 ⟨ρ2, G2, T2, d2, k2, t2, w2, er2, p2⟩
  obtain ⟨k, e, p3⟩ := ok_lift1 p2
  exact ⟨ρ2, G2, T2, d1, d2, k, w2, PRel.tr t2 k1, k2, e, k, rfl, p3 k ρ2 G2 H2 .refl w2 rfl⟩
theorem st_cmpT (S : Snd G C R) (g : Gx X G C) (fit : Fit X F) (tk : L2N.Takes X W) (a : Expr) (op : CmpOp) (b : Expr) (pos : Pos) (hs : notSet b = true) : PT X (.Compare a [op] [b] pos) (RG X.K W kB (cM R F op a b)) :=
  (pt_cmpR (opCmp g.un op) (pe_pE S g fit tk a) (pe_pE S g fit tk b) (noMark hs op)).imp fun σv H Q h => rd_cmp S g fit tk a op b h
/-- a Bool's run as a value's -/
theorem RG.bl {m : EM Bool} {σv : L2.St} {H : Hp} {Q : VK} (h : RG X.K W (kV X.K) (EM.bind m fun k => EM.pure (.bl k, false)) σv H Q) : RG X.K W kB m σv H (fun k H' => Q (.bl k) H') := by
  obtain ⟨ρ, Gh, T, σ, w, er, p⟩ := h
  refine ⟨ρ, Gh, T, σ, w, er, (Post.bind kV_sh er p).mono ?_⟩
  rintro k H1 ⟨ρ1, G1, T1, d1, k1, t1, w1, er1, p1⟩
  cases (show k = d1 from k1)
  exact ok_pure p1 w1 (.bl _)
theorem tOp_mono {r : R2} {ta tb : TE} {σv : L2.St} {H : Hp} {Q Q' : VK} (hr : ∀ x y H, r x y H Q → r x y H Q') (ha : ∀ (P P' : VK), (∀ v H, P v H → P' v H) → ∀ H, ta σv H P → ta σv H P') (hb : ∀ (P P' : VK), (∀ v H, P v H → P' v H) → ∀ H, tb σv H P → tb σv H P') (h : tOp r ta tb σv H Q) : tOp r ta tb σv H Q' :=
  ha _ _ (fun x H1 z => hb _ _ (fun y H2 z2 => hr x y H2 z2) H1 z) H h
theorem RG.mono {α β : Type} {K : PySem.W.Frag} {k : Kd β α} {m : EM α} {σv : L2.St} {H : Hp} {Q Q' : β → Hp → Prop} (hq : ∀ v H, Q v H → Q' v H) (h : RG K W k m σv H Q) : RG K W k m σv H Q' := by
  obtain ⟨ρ, Gh, T, σ, w, er, p⟩ := h
  exact ⟨ρ, Gh, T, σ, w, er, p.mono hq⟩
theorem st_cmpV (S : Snd G C R) (g : Gx X G C) (fit : Fit X F) (tk : L2N.Takes X W) (a : Expr) (op : CmpOp) (b : Expr) (pos : Pos) (hs : notSet b = true) : PE X (.Compare a [op] [b] pos) (RG X.K W (kV X.K) (EM.bind (cM R F op a b) fun k => EM.pure (.bl k, false))) := by
  refine (pe_cmpR (opCmp g.un op) (pe_pE S g fit tk a) (pe_pE S g fit tk b) (noMark hs op)).imp fun σv H Q h => ?_
  refine tOp_mono (Q := fun v H' => ∃ k, v = .bl k ∧ Q (.bl k) H') (fun x y H' z => ?_) (fun P P' i H z => RG.mono i z) (fun P P' i H z => RG.mono i z) (rd_cmp S g fit tk a op b (RG.bl h))
  obtain ⟨ρ, G', T, a', b', k, w, pa, pb, e, k2, e2, q⟩ := z
  cases e2
  exact ⟨ρ, G', T, a', b', k, w, pa, pb, e, q⟩
end
end Mi


set_option Elab.async false
set_option linter.all false
set_option maxRecDepth 100000
/-! MiH: the steps of expressions, further. -/
namespace Mi
open PySem PySem.Spec PyProof.Rows L2
section
variable {X : Cx} {W : WX} {F : Fi} {G : Gi} {C : CallT} {R : Dn}
theorem lastM {op op2 : CmpOp} {b c : Expr} (h : notSet c = true) : lastMarks [op, op2] [b, c] = false := by
  show behindInMarks op2 c = false
  exact noMark h op2
/-- a chain reaches its truth -/
theorem rd_chain (S : Snd G C R) (g : Gx X G C) (fit : Fit X F) (tk : L2N.Takes X W) (a : Expr) (op op2 : CmpOp) (b c : Expr) {σv : L2.St} {H : Hp} {Q : Bool → Hp → Prop} (h : RG X.K W kB (c2M R F op op2 a b c) σv H Q) :
    tChain (rC X (cmpD op)) (rC X (cmpD op2)) (RG X.K W (kP X.K) (pE R F a)) (RG X.K W (kP X.K) (pE R F b)) (RG X.K W (kP X.K) (pE R F c)) σv H (fun v H' => ∃ k, v = .bl k ∧ Q k H') := by
  obtain ⟨ρ, Gh, T, σ, w, er, p⟩ := h
  refine ⟨ρ, Gh, T, σ, w, er, (Post.bind kB_sh er p).mono ?_⟩
  rintro x H1 ⟨ρ1, G1, T1, d1, k1, t1, w1, er1, p1⟩
  refine ⟨ρ1, G1, T1, σ, w1, er1, (Post.bind kB_sh er1 p1).mono ?_⟩
  rintro y H2 ⟨ρ2, G2, T2, d2, k2, t2, w2, er2, p2⟩
  obtain ⟨k, e, p3⟩ := ok_lift p2
  refine ⟨ρ2, G2, T2, d1, d2, k, w2, PRel.tr t2 k1, k2, e, k, rfl, ?_⟩
  cases k with
  | false => exact ⟨false, rfl, ok_pure (σ := σ) p3 w2 rfl⟩
  | true =>
    refine ⟨ρ2, G2, T2, σ, w2, er2, (Post.bind kB_sh er2 p3).mono ?_⟩
    rintro z H3 ⟨ρ3, G3, T3, d3, k3, t3, w3, er3, p4⟩
    obtain ⟨k', e', p5⟩ := ok_lift1 p4
    exact ⟨ρ3, G3, T3, d2, d3, k', w3, PRel.tr t3 k2, k3, e', k', rfl, p5 k' ρ3 G3 H3 .refl w3 rfl⟩
theorem st_chainT (S : Snd G C R) (g : Gx X G C) (fit : Fit X F) (tk : L2N.Takes X W) (a : Expr) (op op2 : CmpOp) (b c : Expr) (pos : Pos) (hs : notSet c = true) : PT X (.Compare a [op, op2] [b, c] pos) (RG X.K W kB (c2M R F op op2 a b c)) :=
  (pt_chain (opCmp g.un op) (opCmp g.un op2) (pe_pE S g fit tk a) (pe_pE S g fit tk b) (pe_pE S g fit tk c) (lastM hs)).imp fun σv H Q h => rd_chain S g fit tk a op op2 b c h
theorem rC_mono {f : D → D → Option Bool} {x y : V} {H : Hp} {Q : VK} (h : rC X f x y H (fun v H' => ∃ k, v = .bl k ∧ Q (.bl k) H')) : rC X f x y H Q := by
  obtain ⟨ρ, G', T, a', b', k, w, pa, pb, e, k2, e2, q⟩ := h
  cases e2
  exact ⟨ρ, G', T, a', b', k, w, pa, pb, e, q⟩
theorem st_chainV (S : Snd G C R) (g : Gx X G C) (fit : Fit X F) (tk : L2N.Takes X W) (a : Expr) (op op2 : CmpOp) (b c : Expr) (pos : Pos) (hs : notSet c = true) : PE X (.Compare a [op, op2] [b, c] pos) (RG X.K W (kV X.K) (EM.bind (c2M R F op op2 a b c) fun k => EM.pure (.bl k, false))) := by
  refine (pe_chain (opCmp g.un op) (opCmp g.un op2) (pe_pE S g fit tk a) (pe_pE S g fit tk b) (pe_pE S g fit tk c) (lastM hs)).imp fun σv H Q h => ?_
  have z := rd_chain S g fit tk a op op2 b c (RG.bl h)
  unfold tChain at z ⊢
  refine RG.mono (fun x H1 z1 => RG.mono (fun y H2 z2 => ?_) z1) z
  obtain ⟨ρ, G', T, a', b', k, w, pa, pb, e, k2, e2, z3⟩ := z2
  cases e2
  refine ⟨ρ, G', T, a', b', k, w, pa, pb, e, k, rfl, ?_⟩
  cases k with
  | false =>
    obtain ⟨k', e', q⟩ := z3
    cases e'
    exact q
  | true => exact RG.mono (fun y' H4 z4 => rC_mono z4) z3
theorem st_ifx (S : Snd G C R) (g : Gx X G C) (fit : Fit X F) (tk : L2N.Takes X W) (c a b : Expr) (pos : Pos) : PE X (.IfExp c a b pos) (RG X.K W (kV X.K) (EM.bind (R.tst F c) fun t => if t then R.val F a else R.val F b)) := by
  refine (pe_ifExp (S.tst X W F c g fit tk) (S.val X W F a g fit tk) (S.val X W F b g fit tk)).imp fun σv H Q ⟨ρ, Gh, T, σ, w, er, p⟩ => ?_
  refine ⟨ρ, Gh, T, σ, w, er, (Post.bind kV_sh er p).mono ?_⟩
  rintro k H1 ⟨ρ1, G1, T1, d1, k1, t1, w1, er1, p1⟩
  cases (show k = d1 from k1)
  cases k with
  | true => exact ⟨ρ1, G1, T1, σ, w1, er1, p1⟩
  | false => exact ⟨ρ1, G1, T1, σ, w1, er1, p1⟩
theorem st_tup (S : Snd G C R) (g : Gx X G C) (fit : Fit X F) (tk : L2N.Takes X W) (es : List Expr) (j : Nat) (pos : Pos) : PE X (.Tuple es j pos) (RG X.K W (kV X.K) (EM.bind (aE R F es) fun ds => if fits ds.length then EM.pure (.tup ds, false) else EM.bad)) := by
  refine (pe_tup (pa_aE S g fit tk es)).imp fun σv H Q ⟨ρ, Gh, T, σ, w, er, p⟩ => ?_
  refine ⟨ρ, Gh, T, σ, w, er, (Post.bind kV_sh er p).mono ?_⟩
  rintro vs H1 ⟨ρ1, G1, T1, ds, k1, t1, w1, er1, p1⟩
  try dsimp only at p1
  cases hf : fits ds.length with
  | false => rw [hf] at p1; exact (show False from p1).elim
  | true =>
    rw [hf, if_pos rfl] at p1
    exact ⟨by rw [Rps.length k1]; exact fits_iff.mp hf, fun q hq => Done.tup (ok_done p1) w1 k1 hq⟩
theorem st_lst (S : Snd G C R) (g : Gx X G C) (fit : Fit X F) (tk : L2N.Takes X W) (es : List Expr) (pos : Pos) : PE X (.List es pos) (RG X.K W (kV X.K) (EM.bind (aE R F es) fun ds => if fits ds.length then EM.pure (.lst ds, true) else EM.bad)) := by
  refine (pe_lst (pa_aE S g fit tk es)).imp fun σv H Q ⟨ρ, Gh, T, σ, w, er, p⟩ => ?_
  refine ⟨ρ, Gh, T, σ, w, er, (Post.bind kV_sh er p).mono ?_⟩
  rintro vs H1 ⟨ρ1, G1, T1, ds, k1, t1, w1, er1, p1⟩
  try dsimp only at p1
  cases hf : fits ds.length with
  | false => rw [hf] at p1; exact (show False from p1).elim
  | true =>
    rw [hf, if_pos rfl] at p1
    exact ⟨by rw [Rps.length k1]; exact fits_iff.mp hf, fun q hq => Done.lst (ok_done p1) w1 k1 hq⟩
def kO : Kd (Option Int) (Option Int) := fun _ _ _ _ b c => b = c
theorem kO_sh : KSh kO := ⟨fun _ _ h => h⟩
theorem po_oE (S : Snd G C R) (g : Gx X G C) (fit : Fit X F) (tk : L2N.Takes X W) : ∀ o : Option Expr, PO X o (RG X.K W kO (oE R F o))
  | none => ⟨fun pins s σ H Q I h => po_none.run pins s σ H Q I (by
      obtain ⟨ρ, Gh, T, σ', w, er, p⟩ := h
      exact p none ρ Gh H .refl w rfl)⟩
  | some e => ⟨fun pins s σ H Q I h => (po_some (pe_vE S g fit tk e)).run pins s σ H Q I (by
      obtain ⟨ρ, Gh, T, σ', w, er, p⟩ := h
      refine ⟨ρ, Gh, T, σ', w, er, (Post.bind kO_sh er p).mono ?_⟩
      rintro v H1 ⟨ρ1, G1, T1, d, k1, t1, w1, er1, p1⟩
      cases d <;> first | exact (show False from p1).elim | skip
      cases Rp.i k1
      exact ⟨_, rfl, ok_pure (σ := σ') p1 w1 rfl⟩)⟩
theorem st_slice (S : Snd G C R) (g : Gx X G C) (fit : Fit X F) (tk : L2N.Takes X W) (a : Expr) (lo hi : Option Expr) (p2 pos : Pos) :
    PE X (.Subscript a (.Slice lo hi none p2) pos) (RG X.K W (kV X.K) (EM.bind (pE R F a) fun x => EM.bind (oE R F lo) fun l => EM.bind (oE R F hi) fun h => EM.bind (EM.lift (sliceD x l h)) fun d => EM.pure (d, isLst d))) := by
  refine (pe_slice slM (pe_pE S g fit tk a) (po_oE S g fit tk lo) (po_oE S g fit tk hi)).imp fun σv H Q ⟨ρ, Gh, T, σ, w, er, p⟩ => ?_
  refine ⟨ρ, Gh, T, σ, w, er, (Post.bind kV_sh er p).mono ?_⟩
  rintro x H1 ⟨ρ1, G1, T1, d1, k1, t1, w1, er1, p1⟩
  refine ⟨ρ1, G1, T1, σ, w1, er1, (Post.bind kV_sh er1 p1).mono ?_⟩
  rintro l H2 ⟨ρ2, G2, T2, l', k2, t2, w2, er2, p2⟩
  cases (show l = l' from k2)
  refine ⟨ρ2, G2, T2, σ, w2, er2, (Post.bind kV_sh er2 p2).mono ?_⟩
  rintro h H3 ⟨ρ3, G3, T3, h', k3, t3, w3, er3, p3⟩
  cases (show h = h' from k3)
  obtain ⟨d, e, p4⟩ := ok_lift p3
  exact ⟨ρ3, G3, T3, d1, d, w3, PRel.tr t3 (PRel.tr t2 k1), e, ok_done p4⟩
theorem plainIx {i : Expr} (h : notSlice i = true) : PlainIx i := by
  cases i <;> first | exact fun _ _ => rfl | cases h
theorem itemM_any {x i : D} {σ σ' : Env} {T : Sto} : itemM x i σ T = itemM x i σ' T := rfl
theorem itemM_T {x i : D} {σ : Env} {T T' : Sto} {d : D} (h : itemM x i σ T = .ok d T') : T' = T ∧ itemM x i [] T = .ok d T := by
  unfold itemM at h
  split at h
  · split at h
    · rename_i n ds hT
      split at h
      · rename_i d' e
        cases h
        refine ⟨rfl, ?_⟩
        unfold itemM
        simp only [hT, e]
      · cases h
    · cases h
  · rename_i hno
    split at h
    · rename_i d' e
      cases h
      refine ⟨rfl, ?_⟩
      unfold itemM
      cases x <;> first | (exact absurd rfl (hno _)) | simp only [e]
    · cases h
theorem itemM_ex {x i : D} {σ : Env} {T T' : Sto} {e : Xn} : itemM x i σ T ≠ .ex e T' := by
  unfold itemM
  intro h
  split at h
  · split at h
    · split at h <;> cases h
    · cases h
  · split at h <;> cases h
theorem st_item (S : Snd G C R) (g : Gx X G C) (fit : Fit X F) (tk : L2N.Takes X W) (a i : Expr) (pos : Pos) (hs : notSlice i = true) :
    PE X (.Subscript a i pos) (RG X.K W (kV X.K) (EM.bind (pE R F a) fun x => EM.bind (vE R F i) fun j => EM.bind (itemM x j) fun d => EM.pure (d, false))) := by
  refine (pe_ix ixM (pe_pE S g fit tk a) (pe_vE S g fit tk i) (plainIx hs)).imp fun σv H Q ⟨ρ, Gh, T, σ, w, er, p⟩ => ?_
  refine ⟨ρ, Gh, T, σ, w, er, (Post.bind kV_sh er p).mono ?_⟩
  rintro x H1 ⟨ρ1, G1, T1, d1, k1, t1, w1, er1, p1⟩
  refine ⟨ρ1, G1, T1, σ, w1, er1, (Post.bind kV_sh er1 p1).mono ?_⟩
  rintro y H2 ⟨ρ2, G2, T2, d2, k2, t2, w2, er2, p2⟩
  try dsimp only at p2
  unfold EM.bind at p2
  cases e : itemM d1 d2 σ T2 with
  | ok d T3 =>
    obtain ⟨rfl, e2⟩ := itemM_T e
    rw [e] at p2
    exact ⟨ρ2, G2, T3, d1, d2, d, w2, PRel.tr t2 k1, .inl k2, e2, fun v hv => p2 v ρ2 G2 H2 .refl w2 hv⟩
  | ex x' T3 => exact absurd e itemM_ex
  | bad => rw [e] at p2; exact (show False from p2).elim

/-! ### calls -/
theorem gl_blt (g : Gx X G C) {x : Str} (h : x ∈ bltNames) : X.mg x = none := g.blt x h
theorem lenM_T {x : D} {σ : Env} {T T' : Sto} {d : D} (h : lenM x σ T = .ok d T') : T' = T ∧ lenM x [] T = .ok d T := by
  unfold lenM at h
  split at h
  · split at h
    · rename_i n ds hT
      cases h
      refine ⟨rfl, ?_⟩
      unfold lenM
      simp only [hT]
    · cases h
  · rename_i hno
    split at h
    · rename_i d' e
      cases h
      refine ⟨rfl, ?_⟩
      unfold lenM
      cases x <;> first | (exact absurd rfl (hno _)) | simp only [e]
    · cases h
theorem lenM_ex {x : D} {σ : Env} {T T' : Sto} {e : Xn} : lenM x σ T ≠ .ex e T' := by
  unfold lenM
  intro h
  split at h
  · split at h <;> cases h
  · split at h <;> cases h
theorem listM_T {x : D} {σ : Env} {T T' : Sto} {d : D × Bool} (h : listM x σ T = .ok d T') : T' = T ∧ listM x [] T = .ok d T := by
  unfold listM at h
  split at h
  · cases h; exact ⟨rfl, rfl⟩
  · cases h; exact ⟨rfl, rfl⟩
  · split at h
    · rename_i n ds hT
      cases h
      refine ⟨rfl, ?_⟩
      unfold listM
      simp only [hT]
    · cases h
  · cases h
theorem listM_ex {x : D} {σ : Env} {T T' : Sto} {e : Xn} : listM x σ T ≠ .ex e T' := by
  unfold listM
  intro h
  split at h
  · cases h
  · cases h
  · split at h <;> cases h
  · cases h
theorem pa1 (S : Snd G C R) (g : Gx X G C) (fit : Fit X F) (tk : L2N.Takes X W) {e : Expr} (hn : notStar e = true) : PA X [e] (tCons (RG X.K W (kP X.K) (pE R F e)) tNil) :=
  pa_cons (pe_pE S g fit tk e) pa_nil (star_of hn [] X.env)
/-- a one-argument built-in -/
theorem st_blt (S : Snd G C R) (g : Gx X G C) (fit : Fit X F) (tk : L2N.Takes X W) {f : Str} {e : Expr} {p pos : Pos} (hg : Gl X f) (hd : isDbg f = false) (hn : notStar e = true) (hm : X.mg f = none)
    (hv : (∃ id, bootBuiltins f = some (.builtin id) ∧ CallR X (.builtin id) (rBlt X f)) ∨ ∃ T, bootBuiltins f = some (.type T) ∧ CallR X (.type T) (rBlt X f)) :
    PE X (.Call (.Name f p) [e] [] pos) (RG X.K W (kV X.K) (EM.bind (pE R F e) fun d => EM.lift (bltD f [d]))) := by
  have rd : ∀ (σv : L2.St) (H : Hp) (Q : VK), RG X.K W (kV X.K) (EM.bind (pE R F e) fun d => EM.lift (bltD f [d])) σv H Q → tCB (rBlt X f) (tCons (RG X.K W (kP X.K) (pE R F e)) tNil) σv H Q := fun σv H Q ⟨ρ, Gh, T, σ, w, er, p⟩ => by
    refine ⟨ρ, Gh, T, σ, w, er, (Post.bind kV_sh er p).mono ?_⟩
    rintro x H1 ⟨ρ1, G1, T1, d1, k1, t1, w1, er1, p1⟩
    obtain ⟨r, e1, p2⟩ := ok_lift1 p1
    exact ⟨x, ρ1, G1, T1, d1, r, rfl, w1, k1, e1, fun v ρ' G' H' t w z => p2 v ρ' G' H' t w z⟩
  obtain ⟨h1, _, h3⟩ := isDbg_ok hd
  rcases hv with ⟨id, hb, hc⟩ | ⟨T, hb, hc⟩
  · exact (pe_callB hc hg hm hb (pa1 S g fit tk hn) h3 h1 (star_of hn [] X.env) rfl).imp rd
  · exact (pe_callTy hc hg hm hb (pa1 S g fit tk hn) h3 h1 (star_of hn [] X.env) rfl).imp rd
theorem st_len (S : Snd G C R) (g : Gx X G C) (fit : Fit X F) (tk : L2N.Takes X W) {e : Expr} {p pos : Pos} (hg : Gl X "len") (hn : notStar e = true) :
    PE X (.Call (.Name "len" p) [e] [] pos) (RG X.K W (kV X.K) (EM.bind (pE R F e) fun d => EM.bind (lenM d) fun k => EM.pure (k, false))) := by
  refine (pe_callB lenR hg (g.blt _ (by decide +kernel)) boot_len (pa1 S g fit tk hn) (by decide +kernel) (by decide +kernel) (star_of hn [] X.env) rfl).imp fun σv H Q ⟨ρ, Gh, T, σ, w, er, p⟩ => ?_
  refine ⟨ρ, Gh, T, σ, w, er, (Post.bind kV_sh er p).mono ?_⟩
  rintro x H1 ⟨ρ1, G1, T1, d1, k1, t1, w1, er1, p1⟩
  try dsimp only at p1
  unfold EM.bind at p1
  cases e : lenM d1 σ T1 with
  | ok d T3 =>
    obtain ⟨rfl, e2⟩ := lenM_T e
    rw [e] at p1
    exact ⟨x, ρ1, G1, T3, d1, d, rfl, w1, k1, e2, fun v hv => p1 v ρ1 G1 H1 .refl w1 hv⟩
  | ex x' T3 => exact absurd e lenM_ex
  | bad => rw [e] at p1; exact (show False from p1).elim
theorem st_list (S : Snd G C R) (g : Gx X G C) (fit : Fit X F) (tk : L2N.Takes X W) {e : Expr} {p pos : Pos} (hg : Gl X "list") (hn : notStar e = true) :
    PE X (.Call (.Name "list" p) [e] [] pos) (RG X.K W (kV X.K) (EM.bind (pE R F e) fun d => listM d)) := by
  refine (pe_callTy listR hg (g.blt _ (by decide +kernel)) PyProof.Rows.boot_list (pa1 S g fit tk hn) (by decide +kernel) (by decide +kernel) (star_of hn [] X.env) rfl).imp fun σv H Q ⟨ρ, Gh, T, σ, w, er, p⟩ => ?_
  refine ⟨ρ, Gh, T, σ, w, er, (Post.bind kV_sh er p).mono ?_⟩
  rintro x H1 ⟨ρ1, G1, T1, d1, k1, t1, w1, er1, p1⟩
  try dsimp only at p1
  cases e : listM d1 σ T1 with
  | ok d T3 =>
    obtain ⟨rfl, e2⟩ := listM_T e
    rw [e] at p1
    exact ⟨x, ρ1, G1, T3, d1, d, rfl, w1, k1, e2, fun v ρ' G' H' t w z => p1 v ρ' G' H' t w z⟩
  | ex x' T3 => exact absurd e listM_ex
  | bad => rw [e] at p1; exact (show False from p1).elim
theorem rg_ints (lo : Int) (n : Nat) (K : PySem.W.Frag) (ρ : List Addr) (Gh : Hp) : Rps K ρ Gh ((List.range n).map fun i => V.int (lo + (i : Nat))) (rangeD lo n) := by
  unfold rangeD
  generalize List.range n = l
  induction l with
  | nil => exact .nil
  | cons i l ih => exact .cons (.int _) ih
theorem st_listRg (S : Snd G C R) (g : Gx X G C) (fit : Fit X F) (tk : L2N.Takes X W) {a : Expr} {p p2 q pos : Pos} (hg : Gl X "list") (hg2 : Gl X "range") (hn : notStar a = true) :
    PE X (.Call (.Name "list" p) [.Call (.Name "range" p2) [a] [] q] [] pos) (RG X.K W (kV X.K) (EM.bind (vE R F a) fun d => match d with
      | .int j => if small62 j && decide (j ≤ 16777216) then EM.pure (.lst (rangeD 0 j.toNat), true) else EM.bad
      | _ => EM.bad)) := by
  refine (pe_listRg fit.calm hg (g.blt _ (by decide +kernel)) (prg_1 hg2 (g.blt _ (by decide +kernel)) (pe_vE S g fit tk a) (star_of hn [] X.env)) rfl).imp fun σv H Q ⟨ρ, Gh, T, σ, w, er, p⟩ => ?_
  refine ⟨ρ, Gh, T, σ, w, er, (Post.bind kV_sh er p).mono ?_⟩
  rintro x H1 ⟨ρ1, G1, T1, d1, k1, t1, w1, er1, p1⟩
  cases d1 <;> first | exact (show False from p1).elim | skip
  rename_i j
  cases Rp.i k1
  have p1' : Post X.K W (kV X.K) ρ1 G1 H1 σv Q ((if (small62 j && decide (j ≤ 16777216)) = true then EM.pure (.lst (rangeD 0 j.toNat), true) else EM.bad) σ T1) := p1
  cases hb : small62 j && decide (j ≤ 16777216) with
  | false => rw [hb] at p1'; exact (show False from p1').elim
  | true =>
    rw [hb, if_pos rfl] at p1'
    unfold small62 at hb
    simp only [Bool.and_eq_true, decide_eq_true_eq] at hb
    obtain ⟨⟨h1, h2⟩, h3⟩ := hb
    refine ⟨j, rfl, ⟨by decide, by decide, h1, h2, by omega⟩, fun q hq => ?_⟩
    have r := rg_ints 0 j.toNat X.K ρ1 G1
    have e0 : rgV 0 j = (List.range j.toNat).map fun i => V.int (0 + (i : Nat)) := by
      unfold rgV
      rw [Int.sub_zero]
    rw [e0]
    exact Done.lst (ok_done p1') w1 r hq
theorem st_isi (S : Snd G C R) (g : Gx X G C) (fit : Fit X F) (tk : L2N.Takes X W) {x : Expr} {t : Str} {p p2 pos : Pos} (hg : Gl X "isinstance") (hg2 : Gl X t) (hd : isDbg t = false) (ht : t ∈ isiNames) (hn : notStar x = true) :
    PE X (.Call (.Name "isinstance" p) [x, .Name t p2] [] pos) (RG X.K W (kV X.K) (EM.bind (pE R F x) fun d => if noObj d then EM.bind (EM.lift (isiD t d)) fun b => EM.pure (.bl b, false) else EM.bad)) := by
  obtain ⟨h1, _, h3⟩ := isDbg_ok hd
  have bt : bootBuiltins t = some (.type (tyN t)) ∧ t ∈ bltNames := by
    unfold isiNames at ht
    simp only [List.mem_cons, List.not_mem_nil, or_false] at ht
    rcases ht with rfl | rfl | rfl | rfl | rfl <;> exact ⟨by decide +kernel, by decide +kernel⟩
  refine (pe_callB call_isi hg (g.blt _ (by decide +kernel)) (by decide +kernel) (pa_cons (pe_pE S g fit tk x) (pa_cons (pe_bltn hg2 (g.blt t bt.2) bt.1 (v := .ty (tyN t)) rfl h3 h1) pa_nil) (star_of hn _ X.env)) (by decide +kernel) (by decide +kernel) (star_of hn _ X.env) rfl).imp fun σv H Q ⟨ρ, Gh, T, σ, w, er, p⟩ => ?_
  refine ⟨ρ, Gh, T, σ, w, er, (Post.bind kV_sh er p).mono ?_⟩
  rintro v H1 ⟨ρ1, G1, T1, d1, k1, t1, w1, er1, p1⟩
  try dsimp only at p1
  cases hno : noObj d1 with
  | false => rw [hno] at p1; exact (show False from p1).elim
  | true =>
    rw [hno, if_pos rfl] at p1
    obtain ⟨b, e, p2⟩ := ok_lift p1
    obtain ⟨ts, hty, et, nd⟩ := tyD w1.sub k1 hno
    exact ⟨v, .ty (tyN t), .type ts, .type (tyN t), b, rfl, .ty _, hty, kit_ty (isi_kit hno e nd et), ok_pure p2 w1 (.bl _)⟩
theorem st_fn (S : Snd G C R) (g : Gx X G C) (fit : Fit X F) (tk : L2N.Takes X W) {f : Str} {e : Expr} {es : List Expr} {p pos : Pos} (hg : Gl X f) (hd : isDbg f = false) (hf : f ∈ G.fn) :
    PE X (.Call (.Name f p) (e :: es) [] pos) (RG X.K W (kV X.K) (EM.bind (aE R F (e :: es)) fun ds _ T => C f ds T)) := by
  cases hs : (e :: es).all notStar with
  | false =>
    refine PE.bad fun σ T => ?_
    unfold EM.bind aE
    rw [hs]
    rfl
  | true =>
    obtain ⟨k, fa, fd, ps, ok, hr, hm, kp, hb⟩ := g.fn f hf
    have hs' := hs
    rw [List.all_cons, Bool.and_eq_true] at hs'
    refine (pe_callS ok hr hg hm kp hb (fun σ => L2N.passAt tk σ) (pa_aE S g fit tk (e :: es)) (isDbg_ok hd).1 (star_of hs'.1 es X.env) (star_back hs'.2 X.env pos)).imp fun σv H Q ⟨ρ, Gh, T, σ, w, er, p⟩ => ?_
    refine ⟨ρ, Gh, T, σ, w, er, (Post.bind kV_sh er p).mono ?_⟩
    rintro vs H1 ⟨ρ1, G1, T1, ds, k1, t1, w1, er1, p1⟩
    refine ⟨ρ1, G1, T1, ds, w1, k1, ?_⟩
    have p1' : Post X.K W (kV X.K) ρ1 G1 H1 σv Q (C f ds T1) := p1
    cases hc : C f ds T1 with
    | ok r T' => rw [hc] at p1'; exact p1'
    | ex x T' => rw [hc] at p1'; exact p1'
    | bad => rw [hc] at p1'; exact (show False from p1').elim
theorem st_call (S : Snd G C R) (g : Gx X G C) (fit : Fit X F) (tk : L2N.Takes X W) (f : Str) (args : List Expr) (p pos : Pos) : PE X (.Call (.Name f p) args [] pos) (RG X.K W (kV X.K) (callE G C R F f args)) := by
  unfold callE
  cases hgd : isGl F.sc f && !isDbg f with
  | false => exact PE.bad fun _ _ => rfl
  | true =>
    rw [if_pos rfl]
    rw [Bool.and_eq_true] at hgd
    obtain ⟨h1, h2⟩ := hgd
    have hg := isGl_ok fit h1
    have hd : isDbg f = false := by simpa using h2
    split
    · rename_i hf
      split
      · exact PE.bad fun _ _ => rfl
      · cases args with
        | nil => rename_i z; exact absurd rfl z
        | cons e es => exact st_fn S g fit tk hg hd hf
    · split
      · rename_i e; subst e
        split
        · rename_i x t p2
          split
          · rename_i hb
            simp only [Bool.and_eq_true, decide_eq_true_eq, Bool.not_eq_true'] at hb
            obtain ⟨⟨⟨b1, b2⟩, b3⟩, b4⟩ := hb
            exact st_isi S g fit tk hg (isGl_ok fit b1) b2 b3 b4
          · exact PE.bad fun _ _ => rfl
        · exact PE.bad fun _ _ => rfl
      · split
        · rename_i e; subst e
          split
          · split
            · rename_i hn
              exact st_len S g fit tk hg hn
            · exact PE.bad fun _ _ => rfl
          · exact PE.bad fun _ _ => rfl
        · split
          · rename_i e; subst e
            split
            · rename_i r p2 a q
              split
              · rename_i hb
                simp only [Bool.and_eq_true, decide_eq_true_eq] at hb
                obtain ⟨⟨b1, b2⟩, b3⟩ := hb
                subst b1
                exact st_listRg S g fit tk hg (isGl_ok fit b2) b3
              · exact PE.bad fun _ _ => rfl
            · split
              · rename_i hn
                exact st_list S g fit tk hg hn
              · exact PE.bad fun _ _ => rfl
            · exact PE.bad fun _ _ => rfl
          · split
            · rename_i hone
              split
              · split
                · rename_i hn
                  have hv : (∃ id, bootBuiltins f = some (.builtin id) ∧ CallR X (.builtin id) (rBlt X f)) ∨ ∃ T, bootBuiltins f = some (.type T) ∧ CallR X (.type T) (rBlt X f) := by
                    unfold oneArg at hone
                    simp only [List.mem_cons, List.not_mem_nil, or_false] at hone
                    rcases hone with rfl | rfl | rfl | rfl | rfl | rfl | rfl
                    · exact .inl ⟨"abs", by decide +kernel, bltR_abs⟩
                    · exact .inr ⟨"int", by decide +kernel, bltR_int⟩
                    · exact .inr ⟨"bool", by decide +kernel, bltR_bool⟩
                    · exact .inr ⟨"tuple", by decide +kernel, bltR_tuple⟩
                    · exact .inl ⟨"all", by decide +kernel, bltR_all fit.calm⟩
                    · exact .inl ⟨"any", by decide +kernel, bltR_any fit.calm⟩
                    · exact .inl ⟨"sum", by decide +kernel, bltR_sum fit.calm⟩
                  have hm : f ∈ bltNames := by
                    unfold oneArg at hone
                    simp only [List.mem_cons, List.not_mem_nil, or_false] at hone
                    rcases hone with rfl | rfl | rfl | rfl | rfl | rfl | rfl <;> decide +kernel
                  exact st_blt S g fit tk hg hd hn (g.blt f hm) hv
                · exact PE.bad fun _ _ => rfl
              · exact PE.bad fun _ _ => rfl
            · exact PE.bad fun _ _ => rfl
end
end Mi


set_option Elab.async false
set_option linter.all false
set_option maxRecDepth 100000
/-! MiI: what is walked; comprehensions. -/
namespace Mi
open PySem PySem.Spec PyProof.Rows L2
/-- between two turns of a loop: statements may have run -/
structure TrW (ρ : List Addr) (G H : Hp) (ρ' : List Addr) (G' H' : Hp) : Prop where
  pre : Pre ρ ρ'
  gsub : Sub G G'
  kfrz : ∀ a o, H a = some o → isFrz o → H' a = some o
def TrB (wk : Bool) (ρ : List Addr) (G H : Hp) (ρ' : List Addr) (G' H' : Hp) : Prop := if wk = true then TrW ρ G H ρ' G' H' else Tr ρ G H ρ' G' H'
theorem Tr.w {ρ ρ' : List Addr} {G H G' H' : Hp} (t : Tr ρ G H ρ' G' H') : TrW ρ G H ρ' G' H' := ⟨t.pre, t.gsub, fun a o e f => t.keep a o e (.inr f)⟩
theorem TrB.w {wk : Bool} {ρ ρ' : List Addr} {G H G' H' : Hp} (t : TrB wk ρ G H ρ' G' H') : TrW ρ G H ρ' G' H' := by
  unfold TrB at t
  split at t
  · exact t
  · exact t.w
theorem TrW.refl {ρ : List Addr} {G H : Hp} : TrW ρ G H ρ G H := ⟨fun _ _ e => e, fun _ _ e => e, fun _ _ e _ => e⟩
theorem TrW.trans {ρ ρ1 ρ2 : List Addr} {G H G1 H1 G2 H2 : Hp} (t : TrW ρ G H ρ1 G1 H1) (u : TrW ρ1 G1 H1 ρ2 G2 H2) : TrW ρ G H ρ2 G2 H2 :=
  ⟨fun n a e => u.pre n a (t.pre n a e), fun a o e => u.gsub a o (t.gsub a o e), fun a o e f => u.kfrz a o (t.kfrz a o e f) f⟩
/-- an iterator gives these items, one behind another -/
def ItOk (K : PySem.W.Frag) (wk : Bool) (ρ : List Addr) (G H : Hp) (J : It) (ds : List D) : Prop :=
  ∀ (ρ' : List Addr) (G' H' : Hp) (T' : Sto), TrB wk ρ G H ρ' G' H' → Wd K ρ' G' H' T' →
    (∀ (i : Nat) (d : D), ds[i]? = some d → J.go i H' ∧ ∀ x H3, J.yld i H' x H3 → ∃ G3, Tr ρ' G' H' ρ' G3 H3 ∧ Wd K ρ' G3 H3 T' ∧ Rp K ρ' G3 x d) ∧ J.stop ds.length H'
def kI (K : PySem.W.Frag) (wk : Bool) : Kd It (List D) := fun ρ G _ H J ds => ItOk K wk ρ G H J ds
theorem kI_sh {K : PySem.W.Frag} {wk : Bool} : KSh (kI K wk) := ⟨fun _ _ h => h⟩
section
variable {K : PySem.W.Frag} {ρ : List Addr} {G H : Hp} {wk : Bool} {ds : List D}
theorem itOk_seqL {a : Addr} (q : ∀ (ρ' : List Addr) (G' H' : Hp) (T' : Sto), TrB wk ρ G H ρ' G' H' → Wd K ρ' G' H' T' → ∃ vs, SqL K H' a vs ∧ Rps K ρ' G' vs ds) : ItOk K wk ρ G H (Itl K a) ds := fun ρ' G' H' T' t w => by
  obtain ⟨vs, h1, r⟩ := q ρ' G' H' T' t w
  refine ⟨fun i d e => ?_, ⟨vs, h1, by rw [r.length]; exact Nat.le_refl _⟩⟩
  obtain ⟨v, e1, r1⟩ := r.get e
  refine ⟨⟨vs, v, h1, e1⟩, fun x H3 hy => ?_⟩
  obtain ⟨rfl, hx⟩ := hy
  have := hx vs h1
  rw [e1] at this
  cases this
  exact ⟨G', .refl, w, r1⟩
theorem itOk_seqT {a : Addr} (q : ∀ (ρ' : List Addr) (G' H' : Hp) (T' : Sto), TrB wk ρ G H ρ' G' H' → Wd K ρ' G' H' T' → ∃ vs, SqT K H' a vs ∧ Rps K ρ' G' vs ds) : ItOk K wk ρ G H (Itt K a) ds := fun ρ' G' H' T' t w => by
  obtain ⟨vs, h1, r⟩ := q ρ' G' H' T' t w
  refine ⟨fun i d e => ?_, ⟨vs, h1, by rw [r.length]; exact Nat.le_refl _⟩⟩
  obtain ⟨v, e1, r1⟩ := r.get e
  refine ⟨⟨vs, v, h1, e1⟩, fun x H3 hy => ?_⟩
  obtain ⟨rfl, hx⟩ := hy
  have := hx vs h1
  rw [e1] at this
  cases this
  exact ⟨G', .refl, w, r1⟩
theorem itOk_rng (lo : Int) (n : Nat) : ItOk K wk ρ G H (Itr lo n) (rangeD lo n) := fun ρ' G' H' T' t w => by
  unfold rangeD
  refine ⟨fun i d e => ?_, by rw [List.length_map, List.length_range]; exact Nat.le_refl _⟩
  rw [List.getElem?_map] at e
  cases e2 : (List.range n)[i]? with
  | none => rw [e2] at e; cases e
  | some k =>
    rw [e2] at e
    have e3 : D.int (lo + (k : Int)) = d := by simpa using e
    have hlt : i < n := by
      have := (List.getElem?_eq_some_iff.mp e2).1
      rwa [List.length_range] at this
    rw [List.getElem?_range hlt] at e2
    cases e2
    refine ⟨hlt, fun x H3 hy => ?_⟩
    obtain ⟨rfl, rfl⟩ := hy
    subst e3
    exact ⟨G', .refl, w, .int _⟩
theorem itOk_str (x : Str) : ItOk K wk ρ G H (Its x) (chars x) := fun ρ' G' H' T' t w => by
  unfold chars
  refine ⟨fun i d e => ?_, by rw [List.length_map]; show x.cps.size ≤ _; simp⟩
  rw [List.getElem?_map] at e
  cases e2 : x.cps.toList[i]? with
  | none => rw [e2] at e; cases e
  | some c =>
    rw [e2] at e
    have e3 : D.str ⟨#[c]⟩ = d := by simpa using e
    have hlt : i < x.cps.size := by
      have := (List.getElem?_eq_some_iff.mp e2).1
      simpa using this
    refine ⟨hlt, fun y H3 hy => ?_⟩
    obtain ⟨rfl, c', h1, rfl⟩ := hy
    rw [Array.getElem?_toList, h1] at e2
    cases e2
    subst e3
    exact ⟨G', .refl, w, .str _⟩
/-- a list that is frozen or stands by itself is a list at each turn -/
theorem PRel.walk (w : Wd K ρ G H T) {x : V} (h : PRel K ρ G H x (.lst ds)) (hw : wk = true → Rp K ρ G x (.lst ds)) : ∃ a vs, x = .ref a ∧ SqL K H a vs ∧ Rps K ρ G vs ds ∧ ∀ (ρ' : List Addr) (G' H' : Hp) (T' : Sto), TrB wk ρ G H ρ' G' H' → Wd K ρ' G' H' T' → ∃ vs, SqL K H' a vs ∧ Rps K ρ' G' vs ds := by
  have fro : Rp K ρ G x (.lst ds) → ∃ a vs, x = .ref a ∧ SqL K H a vs ∧ Rps K ρ G vs ds ∧ ∀ (ρ' : List Addr) (G' H' : Hp) (T' : Sto), TrB wk ρ G H ρ' G' H' → Wd K ρ' G' H' T' → ∃ vs, SqL K H' a vs ∧ Rps K ρ' G' vs ds := fun h => by
    cases h with
    | @lst a vs _ q r => exact ⟨a, vs, rfl, SqL.of (w.sub _ _ q), r, fun ρ' G' H' T' t w' => ⟨vs, SqL.of (w'.sub _ _ (t.w.gsub _ _ q)), Rps.mono t.w.gsub t.w.pre _ _ r⟩⟩
  cases wk with
  | true => exact fro (hw rfl)
  | false =>
    rcases h with h | ⟨a, vs, ds', rfl, e, h1, r, n⟩
    · exact fro h
    · cases e
      refine ⟨a, vs, rfl, SqL.of h1, r, fun ρ' G' H' T' t w' => ?_⟩
      have t' : Tr ρ G H ρ' G' H' := t
      exact ⟨vs, SqL.of (t'.keep _ _ h1 (.inl n)), r.tr t'⟩
end
theorem _root_.L2.PI.imp {X : Cx} {tg e : Expr} {t t' : TI} (h : PI X tg e t) (i : ∀ σ H R, t' σ H R → t σ H R) : PI X tg e t' := ⟨fun pins s σ H R I hw => h.run pins s σ H R I (i σ H R hw)⟩
section
variable {X : Cx} {W : WX} {F : Fi} {G : Gi} {C : CallT} {R : Dn} {wk : Bool} {P : Fi → Expr → EM D} {tg : Expr}
/-- how the walked value is come by: frozen for a loop, only looked at for a comprehension -/
def HowP (X : Cx) (W : WX) (F : Fi) (wk : Bool) (P : Fi → Expr → EM D) : Prop := ∀ e, PE X e (RG X.K W (fun ρ G H0 H v d => PRel X.K ρ G H v d ∧ (wk = true → Rp X.K ρ G v d)) (P F e))
theorem kW_sh {K : PySem.W.Frag} : KSh (β := V) (α := D) (fun ρ G _ H v d => PRel K ρ G H v d ∧ (wk = true → Rp K ρ G v d)) := ⟨fun _ _ h => h⟩
theorem how_vE (S : Snd G C R) (g : Gx X G C) (fit : Fit X F) (tk : L2N.Takes X W) : HowP X W F true (vE R) := fun e =>
  (pe_vE S g fit tk e).imp fun σv H Q ⟨ρ, Gh, T, σ, w, er, p⟩ => ⟨ρ, Gh, T, σ, w, er, by
    cases e1 : vE R F e σ T with
    | ok d T1 => rw [e1] at p; exact fun v ρ' G' H' t w' z => p v ρ' G' H' t w' ⟨.inl z, fun _ => z⟩
    | ex x T1 => rw [e1] at p; exact p
    | bad => rw [e1] at p; exact p⟩
theorem how_pE (S : Snd G C R) (g : Gx X G C) (fit : Fit X F) (tk : L2N.Takes X W) : HowP X W F false (pE R) := fun e =>
  (pe_pE S g fit tk e).imp fun σv H Q ⟨ρ, Gh, T, σ, w, er, p⟩ => ⟨ρ, Gh, T, σ, w, er, by
    cases e1 : pE R F e σ T with
    | ok d T1 => rw [e1] at p; exact fun v ρ' G' H' t w' z => p v ρ' G' H' t w' ⟨z, fun e => nomatch e⟩
    | ex x T1 => rw [e1] at p; exact p
    | bad => rw [e1] at p; exact p⟩
theorem pi_items (hP : HowP X W F wk P) (e : Expr) : PI X tg e (RG X.K W (kI X.K wk) (EM.bind (P F e) fun d => itemsM d)) := by
  refine ⟨fun pins s σv H Rr I h => ?_⟩
  obtain ⟨ρ, Gh, T, σ, w, er, p⟩ := h
  have go : ∀ {t : TI}, PI X tg e t → t σv H Rr → wpAny (model X.prog X.w) X.A (eval e X.env) (fun v s1 => wpAny (model X.prog X.w) X.A (pyIter v) (PIE X pins σv tg Rr) X.xe s1) X.xe s := fun hp ht => hp.run pins s σv H Rr I ht
  unfold EM.bind at p
  cases e1 : P F e σ T with
  | bad => rw [e1] at p; exact (show False from p).elim
  | ex x T1 =>
    rw [e1] at p
    refine go (pi_list (hP e)) ⟨ρ, Gh, T, σ, w, er, ?_⟩
    rw [e1]
    exact p
  | ok d T1 =>
    rw [e1] at p
    have p : Post X.K W (kI X.K wk) ρ Gh H σv Rr (itemsM d σ T1) := p
    cases d with
    | lst ds =>
      refine go (pi_list (hP e)) ⟨ρ, Gh, T, σ, w, er, ?_⟩
      rw [e1]
      intro v ρ1 G1 H1 t1 w1 k1
      obtain ⟨a, vs, rfl, h1, r, q⟩ := PRel.walk w1 k1.1 k1.2
      exact ⟨a, rfl, ⟨vs, h1⟩, p _ ρ1 G1 H1 t1 w1 (itOk_seqL q)⟩
    | tup ds =>
      refine go (pi_tup (hP e)) ⟨ρ, Gh, T, σ, w, er, ?_⟩
      rw [e1]
      intro v ρ1 G1 H1 t1 w1 k1
      obtain ⟨a, vs, rfl, h1, r⟩ := k1.1.t
      exact ⟨a, rfl, ⟨vs, SqT.sub w1.sub h1⟩, p _ ρ1 G1 H1 t1 w1 (itOk_seqT fun ρ' G' H' T' t w' => ⟨vs, SqT.sub w'.sub (SqT.sub t.w.gsub h1), Rps.mono t.w.gsub t.w.pre _ _ r⟩)⟩
    | str z =>
      refine go (pi_str (hP e)) ⟨ρ, Gh, T, σ, w, er, ?_⟩
      rw [e1]
      intro v ρ1 G1 H1 t1 w1 k1
      cases k1.1.s
      refine ⟨z, rfl, ?_⟩
      unfold itemsM itemsD at p
      simp only at p
      cases hf : fits z.length with
      | false => rw [hf] at p; exact (show False from p).elim
      | true =>
        rw [hf, if_pos rfl] at p
        exact p _ ρ1 G1 H1 t1 w1 (itOk_str z)
    | obj n =>
      unfold itemsM at p
      simp only at p
      split at p
      · rename_i ds hT
        refine go (pi_list (hP e)) ⟨ρ, Gh, T, σ, w, er, ?_⟩
        rw [e1]
        intro v ρ1 G1 H1 t1 w1 k1
        obtain ⟨a, rfl, hr⟩ := k1.1.o
        obtain ⟨b, e2, o, vs, h1, r⟩ := w1.sto n _ hT
        rw [hr] at e2
        cases e2
        refine ⟨a, rfl, ⟨vs, .inl (.inr ⟨o, h1⟩)⟩, p _ ρ1 G1 H1 t1 w1 (itOk_seqL fun ρ' G' H' T' t w' => ⟨vs, .inl (.inr ⟨o, t.w.kfrz _ _ h1 trivial⟩), Rps.mono t.w.gsub t.w.pre _ _ r⟩)⟩
      · exact (show False from p).elim
    | _ => exact (show False from p).elim
theorem star1 {a : Expr} (h : notStar a = true) : starEach [a] X.env = [(false, eval a X.env)] := star_of h [] X.env
theorem pi_itM (S : Snd G C R) (g : Gx X G C) (fit : Fit X F) (tk : L2N.Takes X W) (hP : HowP X W F wk P) (e : Expr) : PI X tg e (RG X.K W (kI X.K wk) (itM P R F tg e)) := by
  unfold itM
  split
  · rename_i f p2 a pos
    split
    · rename_i hb
      simp only [Bool.and_eq_true, decide_eq_true_eq] at hb
      obtain ⟨⟨b1, b2⟩, rfl⟩ := hb
      refine (pi_range1 (isGl_ok fit b1) (g.blt _ (by decide +kernel)) (pa_cons (pe_vE S g fit tk a) pa_nil (star_of b2 [] X.env)) (star1 b2)).imp fun σv H Rr ⟨ρ, Gh, T, σ, w, er, p⟩ => ?_
      refine ⟨ρ, Gh, T, σ, w, er, (Post.bind kI_sh er p).mono ?_⟩
      rintro v H1 ⟨ρ1, G1, T1, d, k1, t1, w1, er1, p1⟩
      cases d <;> first | exact (show False from p1).elim | skip
      rename_i j
      cases Rp.i k1
      have p1' : Post X.K W (kI X.K wk) ρ1 G1 H1 σv Rr ((if small62 j = true then EM.pure (rangeD 0 j.toNat) else EM.bad) σ T1) := p1
      cases hs : small62 j with
      | false => rw [hs] at p1'; exact (show False from p1').elim
      | true =>
        rw [hs, if_pos rfl] at p1'
        unfold small62 at hs
        simp only [Bool.and_eq_true, decide_eq_true_eq] at hs
        exact ⟨j, rfl, hs.1, hs.2, p1' _ ρ1 G1 H1 .refl w1 (itOk_rng 0 _)⟩
    · split
      · rename_i hb
        simp only [Bool.and_eq_true, decide_eq_true_eq] at hb
        obtain ⟨⟨b1, b2⟩, rfl⟩ := hb
        split
        · rename_i ht
          cases tg <;> first | (cases ht; done) | skip
          rename_i elts kk tpos
          refine (pi_enum (isGl_ok fit b1) (g.blt _ (by decide +kernel)) (pa_cons (hP a) pa_nil (star_of b2 [] X.env)) (star1 b2)).imp fun σv H Rr ⟨ρ, Gh, T, σ, w, er, p⟩ => ?_
          refine ⟨ρ, Gh, T, σ, w, er, (Post.bind kI_sh er p).mono ?_⟩
          rintro v H1 ⟨ρ1, G1, T1, d, k1, t1, w1, er1, p1⟩
          cases d <;> first | exact (show False from p1).elim | skip
          rename_i ds
          obtain ⟨a', vs, rfl, h1, r, q⟩ := PRel.walk w1 k1.1 k1.2
          refine ⟨a', vs, rfl, h1, (show Post X.K W (kI X.K wk) ρ1 G1 H1 σv Rr (.ok (enumFrom 0 ds) T1) from p1) _ ρ1 G1 H1 .refl w1 ?_⟩
          intro ρ' G' H' T' t w'
          obtain ⟨vs', h1', r'⟩ := q ρ' G' H' T' t w'
          have enl : ∀ (k : Nat) (l : List D), (enumFrom k l).length = l.length := fun k l => by
            induction l generalizing k with
            | nil => rfl
            | cons d l ih => show (enumFrom (k + 1) l).length + 1 = l.length + 1; rw [ih]
          have eng : ∀ (k i : Nat) (l : List D) (d : D), (enumFrom k l)[i]? = some d → ∃ e, l[i]? = some e ∧ d = .tup [.int ((k + i : Nat) : Int), e] := fun k i l d h => by
            induction l generalizing k i with
            | nil => simp [enumFrom] at h
            | cons e l ih =>
              cases i with
              | zero => simp [enumFrom] at h; exact ⟨e, rfl, by simp [h]⟩
              | succ i =>
                obtain ⟨e', h1, h2⟩ := ih (k + 1) i (by simpa [enumFrom] using h)
                exact ⟨e', by simpa using h1, by rw [h2]; congr 4; omega⟩
          refine ⟨fun i d e => ?_, ⟨vs', h1', by rw [enl, r'.length]; exact Nat.le_refl _⟩⟩
          obtain ⟨e', h2, rfl⟩ := eng 0 i ds d e
          obtain ⟨u, h3, r3⟩ := r'.get h2
          refine ⟨⟨vs', u, h1', h3⟩, fun x H3 hy => ?_⟩
          obtain ⟨Ta, x0, rfl, hn, rfl, hx⟩ := hy
          have := hx vs' h1'
          rw [h3] at this
          cases this
          have g0 := w'.gfree hn
          refine ⟨upd G' Ta (.tup [.int (i : Nat), u]), (Tr.refl.new w' hn _).frz _ g0 hn, (w'.new hn _).frz upd_same (w'.rfree hn) g0, ?_⟩
          refine .tup (.inl (.inl upd_same)) (.cons ?_ (.cons (Rp.mono (sub_frz _ g0) (fun _ _ e => e) _ _ r3) .nil))
          rw [Nat.zero_add]
          exact .int _
        · exact ⟨fun pins s σ H Rr I ⟨ρ, Gh, T, σ', _, _, p⟩ => (show False from p).elim⟩
      · split
        · rename_i hb
          simp only [Bool.and_eq_true, decide_eq_true_eq] at hb
          obtain ⟨⟨b1, b2⟩, rfl⟩ := hb
          refine (pi_reversed (isGl_ok fit b1) (g.blt _ (by decide +kernel)) (pa_cons (hP a) pa_nil (star_of b2 [] X.env)) (star1 b2)).imp fun σv H Rr ⟨ρ, Gh, T, σ, w, er, p⟩ => ?_
          refine ⟨ρ, Gh, T, σ, w, er, (Post.bind kI_sh er p).mono ?_⟩
          rintro v H1 ⟨ρ1, G1, T1, d, k1, t1, w1, er1, p1⟩
          cases d <;> first | exact (show False from p1).elim | skip
          rename_i ds
          obtain ⟨a', vs, rfl, h1, r, q⟩ := PRel.walk w1 k1.1 k1.2
          refine ⟨a', vs, rfl, h1, (show Post X.K W (kI X.K wk) ρ1 G1 H1 σv Rr (.ok ds.reverse T1) from p1) _ ρ1 G1 H1 .refl w1 ?_⟩
          intro ρ' G' H' T' t w'
          obtain ⟨vs', h1', r'⟩ := q ρ' G' H' T' t w'
          have hl : vs.length = ds.length := r.length
          refine ⟨fun i d e => ?_, by rw [List.length_reverse, ← hl]; exact Nat.le_refl _⟩
          have hi : i < ds.length := by
            have := (List.getElem?_eq_some_iff.mp e).1
            rwa [List.length_reverse] at this
          rw [List.getElem?_reverse hi] at e
          obtain ⟨u, h3, r3⟩ := r'.get e
          rw [← hl] at h3
          refine ⟨⟨by rw [hl]; exact hi, vs', u, h1', h3⟩, fun x H3 hy => ?_⟩
          obtain ⟨rfl, hx⟩ := hy
          have := hx vs' h1'
          rw [h3] at this
          cases this
          exact ⟨G', .refl, w', r3⟩
        · exact pi_items hP _
  · rename_i f p2 a b pos
    split
    · rename_i hb
      simp only [Bool.and_eq_true, decide_eq_true_eq] at hb
      obtain ⟨⟨⟨b1, b2⟩, b3⟩, rfl⟩ := hb
      refine (pi_range2 (isGl_ok fit b1) (g.blt _ (by decide +kernel)) (pa_cons (pe_vE S g fit tk a) (pa_cons (pe_vE S g fit tk b) pa_nil (star_of b3 [] X.env)) (star_of b2 _ X.env)) (by rw [star_of b2, star1 b3]) (star1 b3)).imp fun σv H Rr ⟨ρ, Gh, T, σ, w, er, p⟩ => ?_
      refine ⟨ρ, Gh, T, σ, w, er, (Post.bind kI_sh er p).mono ?_⟩
      rintro v H1 ⟨ρ1, G1, T1, d, k1, t1, w1, er1, p1⟩
      refine ⟨ρ1, G1, T1, σ, w1, er1, (Post.bind kI_sh er1 p1).mono ?_⟩
      rintro v2 H2 ⟨ρ2, G2, T2, d2, k2, t2, w2, er2, p2⟩
      cases d <;> first | exact (show False from p2).elim | skip
      cases d2 <;> first | exact (show False from p2).elim | skip
      rename_i i j
      cases Rp.i k1
      cases Rp.i k2
      have p2' : Post X.K W (kI X.K wk) ρ2 G2 H2 σv Rr ((if (small62 i && small62 j) = true then EM.pure (rangeD i (j - i).toNat) else EM.bad) σ T2) := p2
      cases hs : small62 i && small62 j with
      | false => rw [hs] at p2'; exact (show False from p2').elim
      | true =>
        rw [hs, if_pos rfl] at p2'
        unfold small62 at hs
        simp only [Bool.and_eq_true, decide_eq_true_eq] at hs
        exact ⟨i, j, rfl, ⟨hs.1.1, hs.1.2, hs.2.1, hs.2.2⟩, p2' _ ρ2 G2 H2 .refl w2 (itOk_rng i _)⟩
    · exact pi_items hP _
  · exact pi_items hP _
end
end Mi


set_option Elab.async false
set_option linter.all false
set_option maxRecDepth 100000
/-! MiJ: targets; comprehensions. -/
namespace Mi
open PySem PySem.Spec PyProof.Rows L2
/-! ### targets -/
def SameAt (is : List Nat) (σ σ' : L2.St) : Prop := σ'.length = σ.length ∧ ∀ j, j ∉ is → σ'[j]? = σ[j]?
theorem SameAt.refl {is : List Nat} {σ : L2.St} : SameAt is σ σ := ⟨rfl, fun _ _ => rfl⟩
theorem SameAt.set {is : List Nat} {σ : L2.St} {i : Nat} {v : Option V} (h : i ∈ is) : SameAt is σ (σ.set i v) := ⟨by rw [List.length_set], fun j hj => by rw [List.getElem?_set_ne]; rintro rfl; exact hj h⟩
theorem SameAt.trans {is : List Nat} {σ σ1 σ2 : L2.St} (a : SameAt is σ σ1) (b : SameAt is σ1 σ2) : SameAt is σ σ2 := ⟨b.1.trans a.1, fun j hj => (b.2 j hj).trans (a.2 j hj)⟩
theorem SameAt.mono {is js : List Nat} {σ σ1 : L2.St} (a : SameAt is σ σ1) (h : ∀ i ∈ is, i ∈ js) : SameAt js σ σ1 := ⟨a.1, fun j hj => a.2 j fun z => hj (h j z)⟩
theorem wipe_get (σ : L2.St) : ∀ (vs : List Nat) (j : Nat), (wipe σ vs)[j]? = if j ∈ vs then (if j < σ.length then some none else none) else σ[j]?
  | [], j => by simp [wipe]
  | v :: vs, j => by
    unfold wipe
    by_cases h : v = j
    · subst h
      simp only [List.mem_cons, true_or, if_true]
      rw [List.getElem?_set]
      simp [wipe_length]
    · rw [List.getElem?_set_ne h, wipe_get σ vs j]
      have h' : ¬ j = v := fun e => h e.symm
      simp only [List.mem_cons, h', false_or]
theorem SameAt.wipe {is vs : List Nat} {σ σ1 : L2.St} (a : SameAt is σ σ1) (h : ∀ i ∈ is, i ∈ vs) : L2.wipe σ1 vs = L2.wipe σ vs := by
  apply List.ext_getElem?
  intro j
  rw [wipe_get, wipe_get, a.1]
  split
  · rfl
  · rename_i hj
    exact a.2 j fun z => hj (h j z)
section
variable {K : PySem.W.Frag} {ρ : List Addr} {G H : Hp} {σ : Env} {σv : L2.St}
theorem EnvR.set (h : EnvR K ρ G H σ σv) {v : V} {d : D} (r : Rp K ρ G v d) (i : Nat) : EnvR K ρ G H (σ.set i (.fz d)) (σv.set i (some v)) := by
  refine ⟨by rw [List.length_set, List.length_set, h.len], fun j s u e1 e2 => ?_, fun j k d1 d2 a e1 e2 e3 e4 => ?_⟩
  · by_cases hj : i = j
    · subst hj
      rw [List.getElem?_set] at e1 e2
      simp only [if_true] at e1 e2
      split at e1
      · split at e2
        · cases e1; cases e2
          exact ⟨v, rfl, r⟩
        · cases e2
      · cases e1
    · rw [List.getElem?_set_ne hj] at e1 e2
      exact h.at_ j s u e1 e2
  · have nj : i ≠ j := by
      rintro rfl
      rw [List.getElem?_set] at e1
      simp only [if_true] at e1
      split at e1 <;> cases e1
    have nk : i ≠ k := by
      rintro rfl
      rw [List.getElem?_set] at e2
      simp only [if_true] at e2
      split at e2 <;> cases e2
    rw [List.getElem?_set_ne nj] at e1 e3
    rw [List.getElem?_set_ne nk] at e2 e4
    exact h.dist j k d1 d2 a e1 e2 e3 e4
theorem wipeE_get (σ : Env) : ∀ (vs : List Nat) (j : Nat) (s : Sl), (wipeE σ vs)[j]? = some s → (j ∈ vs ∧ s = .no) ∨ (j ∉ vs ∧ σ[j]? = some s)
  | [], j, s, e => .inr ⟨by simp, e⟩
  | v :: vs, j, s, e => by
    unfold wipeE at e
    by_cases h : v = j
    · subst h
      rw [List.getElem?_set] at e
      simp only [if_true] at e
      split at e
      · cases e; exact .inl ⟨by simp, rfl⟩
      · cases e
    · rw [List.getElem?_set_ne h] at e
      have h' : ¬ j = v := fun z => h z.symm
      rcases wipeE_get σ vs j s e with ⟨a, b⟩ | ⟨a, b⟩
      · exact .inl ⟨by simp [a], b⟩
      · exact .inr ⟨by simp [h', a], b⟩
theorem wipeE_len (σ : Env) : ∀ vs : List Nat, (wipeE σ vs).length = σ.length
  | [] => rfl
  | v :: vs => by unfold wipeE; rw [List.length_set, wipeE_len σ vs]
theorem EnvR.wipe (h : EnvR K ρ G H σ σv) (vs : List Nat) : EnvR K ρ G H (wipeE σ vs) (L2.wipe σv vs) := by
  refine ⟨by rw [wipeE_len, wipe_length, h.len], fun j s u e1 e2 => ?_, fun j k d1 d2 a e1 e2 e3 e4 => ?_⟩
  · rcases wipeE_get σ vs j s e1 with ⟨_, rfl⟩ | ⟨n, e⟩
    · trivial
    · rw [wipe_get, if_neg n] at e2
      exact h.at_ j s u e e2
  · rcases wipeE_get σ vs j _ e1 with ⟨_, z⟩ | ⟨n, e⟩
    · cases z
    · rcases wipeE_get σ vs k _ e2 with ⟨_, z⟩ | ⟨n2, e'⟩
      · cases z
      · rw [wipe_get, if_neg n] at e3
        rw [wipe_get, if_neg n2] at e4
        exact h.dist j k d1 d2 a e e' e3 e4
end
theorem _root_.L2.PG.imp {X : Cx} {e : Expr} {t t' : TG} (h : PG X e t) (i : ∀ v σ H Q, t' v σ H Q → t v σ H Q) : PG X e t' := ⟨fun pins s σ H v u Q I r hw => h.run pins s σ H v u Q I r (i v σ H Q hw)⟩
theorem _root_.L2.PGs.imp {X : Cx} {es : List Expr} {t t' : TGs} (h : PGs X es t) (i : ∀ v σ H Q, t' v σ H Q → t v σ H Q) : PGs X es t' := ⟨fun pins s σ H v u Q I r hw => h.run pins s σ H v u Q I r (i v σ H Q hw)⟩
/-- what targets are to reach -/
def gR (K : PySem.W.Frag) (is : List Nat) (f : D → Env → Option Env) : TG := fun v σv H Q => ∃ ρ G T σ d σ1, Wd K ρ G H T ∧ EnvR K ρ G H σ σv ∧ Rp K ρ G v d ∧ f d σ = some σ1 ∧ ∀ σv1, EnvR K ρ G H σ1 σv1 → SameAt is σv σv1 → Q σv1 H
def gRs (K : PySem.W.Frag) (is : List Nat) (f : List D → Env → Option Env) : TGs := fun vs σv H Q => ∃ ρ G σ ds σ1, EnvR K ρ G H σ σv ∧ Rps K ρ G vs ds ∧ f ds σ = some σ1 ∧ ∀ σv1, EnvR K ρ G H σ1 σv1 → SameAt is σv σv1 → Q σv1 H
section
variable {X : Cx} {F : Fi}
theorem slotL_ok (fit : Fit X F) {x : Str} {i : Nat} (h : slotL F x = some i) : X.N[i]? = some x ∧ Loc X.env.scope x ∧ (X.fn x = true ∨ X.env.scope.names.lookup x = some .local) := by
  unfold slotL at h
  split at h
  · rename_i hv
    simp only [Bool.and_eq_true, Bool.or_eq_true, decide_eq_true_eq] at hv
    rw [fit.N, fit.sc, fit.fn]
    exact ⟨ixOf_get h, locB_iff hv.1, hv.2⟩
  · cases h
theorem pg_nm (fit : Fit X F) {x : Str} {pos : Pos} {i : Nat} (h : slotL F x = some i) : PG X (.Name x pos) (gName i) := by
  obtain ⟨h1, h2, h3⟩ := slotL_ok fit h
  exact pg_name fit.nd h1 h2 h3
def isName : Expr → Bool
  | .Name _ _ => true
  | _ => false
theorem each_name {e : Expr} (h : isName e = true) (es : List Expr) (env : PySem.Env) : assignEach (e :: es) env = (false, assign e env) :: assignEach es env := by
  cases e <;> first | rfl | cases h
theorem each_len : ∀ {es : List Expr}, es.all isName = true → ∀ env, (assignEach es env).length = es.length ∧ (assignEach es env).findIdx? (·.1) = none
  | [], _, env => ⟨rfl, rfl⟩
  | e :: es, h, env => by
    rw [List.all_cons, Bool.and_eq_true] at h
    rw [each_name h.1]
    obtain ⟨a, b⟩ := each_len h.2 env
    refine ⟨by rw [List.length_cons, List.length_cons, a], ?_⟩
    rw [List.findIdx?_cons, b]
    rfl
theorem bindNs_names : ∀ {es : List Expr} {ds : List D} {σ σ1 : Env}, bindNs F es ds σ = some σ1 → es.all isName = true ∧ es.length = ds.length
  | [], [], _, _, _ => ⟨rfl, rfl⟩
  | [], _ :: _, _, _, h => by cases h
  | e :: es, ds, σ, σ1, h => by
    cases e <;> first | (cases h; done) | skip
    cases ds with
    | nil => cases h
    | cons d ds =>
      rename_i x pos
      have h' : ((slotL F x).bind fun i => bindNs F es ds (σ.set i (.fz d))) = some σ1 := h
      cases e1 : slotL F x with
      | none => rw [e1] at h'; cases h'
      | some i =>
        rw [e1] at h'
        obtain ⟨a, b⟩ := bindNs_names (es := es) (ds := ds) h'
        exact ⟨by rw [List.all_cons, a]; rfl, by rw [List.length_cons, List.length_cons, b]⟩
theorem pgs_bad {es : List Expr} {is : List Nat} {f : List D → Env → Option Env} (h : ∀ ds σ, f ds σ = none) : PGs X es (gRs X.K is f) := ⟨fun pins s σ H vs us Q I r hw => by
  obtain ⟨ρ, G, σ', ds, σ1, _, _, e, _⟩ := hw
  rw [h] at e
  cases e⟩
theorem pgs_bind (fit : Fit X F) : ∀ es : List Expr, PGs X es (gRs X.K (slotsNs F es) (bindNs F es))
  | [] => pgs_nil.imp fun vs σv H Q ⟨ρ, G, σ, ds, σ1, er, r, e, q⟩ => by
    cases ds with
    | cons d ds => cases e
    | nil =>
      cases e
      cases r
      exact ⟨rfl, q _ er .refl⟩
  | e :: es => by
    cases e
    case Name x pos =>
      cases e1 : slotL F x with
      | none =>
        refine pgs_bad fun ds σ => ?_
        cases ds with
        | nil => rfl
        | cons d ds =>
          show ((slotL F x).bind fun i => bindNs F es ds (σ.set i (.fz d))) = none
          rw [e1]
          rfl
      | some i =>
        refine (pgs_cons (pg_nm fit e1) (pgs_bind fit es)).imp fun vs σv H Q ⟨ρ, G, σ, ds, σ1, er, r, e, q⟩ => ?_
        cases ds with
        | nil => cases e
        | cons d ds =>
          have e : ((slotL F x).bind fun i => bindNs F es ds (σ.set i (.fz d))) = some σ1 := e
          rw [e1] at e
          cases r with
          | @cons v vs _ _ r rs =>
            refine ⟨v, vs, rfl, ρ, G, σ.set i (.fz d), ds, σ1, er.set r i, rs, e, fun σv1 er1 sm => q σv1 er1 ?_⟩
            have es' : slotsNs F (.Name x pos :: es) = i :: slotsNs F es := by
              show (match slotL F x with | some i => [i] | none => []) ++ slotsNs F es = _
              rw [e1]
              rfl
            rw [es']
            exact (SameAt.set (by simp)).trans (sm.mono fun j hj => by simp [hj])
    all_goals exact pgs_bad fun ds σ => by cases ds <;> rfl
theorem pg_bind (fit : Fit X F) (tg : Expr) : PG X tg (gR X.K (slotsT F tg) (bindT F tg)) := by
  refine ⟨fun pins s σv H v u Q I r h => ?_⟩
  obtain ⟨ρ, G, T, σ, d, σ1, w, er, rp, e, q⟩ := h
  cases tg
  case Name x pos =>
    have e : (slotL F x).map (fun i => σ.set i (.fz d)) = some σ1 := e
    cases e1 : slotL F x with
    | none => rw [e1] at e; cases e
    | some i =>
      rw [e1] at e
      have e2 : σ.set i (.fz d) = σ1 := by simpa using e
      subst e2
      have es' : slotsT F (.Name x pos) = [i] := by
        show (match slotL F x with | some i => [i] | none => []) = _
        rw [e1]
      exact (pg_nm fit e1).run pins s σv H v u Q I r (q _ (er.set rp i) (by rw [es']; exact SameAt.set (by simp)))
  case Tuple es k pos =>
    cases d <;> first | (cases e; done) | skip
    case tup ds =>
      have e : bindNs F es ds σ = some σ1 := e
      obtain ⟨hn, hl⟩ := bindNs_names e
      obtain ⟨l1, l2⟩ := each_len hn X.env
      cases rp with
      | @tup a vs _ hq rs => exact (pg_tup fit.calm (pgs_bind fit es) l1 l2).run pins s σv H _ u Q I r ⟨a, vs, rfl, SqT.sub w.sub hq, by rw [rs.length, hl], ρ, G, σ, ds, σ1, er, rs, e, q⟩
    case lst ds =>
      have e : bindNs F es ds σ = some σ1 := e
      obtain ⟨hn, hl⟩ := bindNs_names e
      obtain ⟨l1, l2⟩ := each_len hn X.env
      cases rp with
      | @lst a vs _ hq rs => exact (pg_lst fit.calm (pgs_bind fit es) l1 l2).run pins s σv H _ u Q I r ⟨a, vs, rfl, SqL.of (w.sub _ _ hq), by rw [rs.length, hl], ρ, G, σ, ds, σ1, er, rs, e, q⟩
  all_goals (cases d <;> cases e)
end

/-! ### comprehensions -/
theorem Wd.own {K : PySem.W.Frag} {ρ : List Addr} {G H : Hp} {T : Sto} (w : Wd K ρ G H T) {p : Addr} (hp : p ∉ ρ) (hg : G p = none) (o : HO) : Wd K ρ G (upd H p o) T := by
  refine ⟨fun a u e => ?_, w.len, fun n ob e => ?_, w.nd, w.dj⟩
  · have : a ≠ p := fun z => by rw [z, hg] at e; cases e
    rw [upd_ne this]
    exact w.sub a u e
  · obtain ⟨a, ha, r⟩ := w.sto n ob e
    refine ⟨a, ha, ?_⟩
    have : a ≠ p := fun z => hp (z ▸ List.mem_of_getElem? ha)
    rw [upd_ne this]
    exact r
theorem Tr.own {ρ ρ1 : List Addr} {G G1 H H1 : Hp} (t : Tr ρ G H ρ1 G1 H1) {p : Addr} (hp : H p = none) (o : HO) : Tr ρ G H ρ1 G1 (upd H1 p o) := by
  refine ⟨t.pre, t.rnew, t.gsub, t.gnew, fun a o' e h => ?_⟩
  rw [upd_ne (ne_of_none e hp)]
  exact t.keep a o' e h
abbrev W0 : WX := fun _ _ _ _ => False
section
variable {X : Cx} {W : WX} {F : Fi} {G : Gi} {C : CallT} {R : Dn}
theorem pts_ifs (S : Snd G C R) (g : Gx X G C) (fit : Fit X F) (tk : L2N.Takes X W) (ifs : List Expr) : PTs X ifs (RG X.K W kB (ifsE R F ifs)) := by
  match ifs with
  | [] => exact ⟨fun pins s σv H Q I ⟨ρ, Gh, T, σ, w, er, p⟩ => pts_nil.run pins s σv H Q I (p true ρ Gh H .refl w rfl)⟩
  | [c] => exact pts_one (S.tst X W F c g fit tk)
  | c :: c2 :: r => exact ⟨fun pins s σv H Q I ⟨ρ, Gh, T, σ, w, er, p⟩ => p.elim⟩
theorem ps_noex {α β : Type} {K : PySem.W.Frag} {k : Kd β α} {ρ ρ1 : List Addr} {G G1 H H1 : Hp} {σv : L2.St} {Q : β → Hp → Prop} {r : Res α} {f : α → Sto → Res (List D)} {Wf : WX} {kk : Kd V (D × Bool)} {Qf : VK} {σw : L2.St}
    (h : Post K Wf kk ρ1 G1 H1 σw Qf ((r.noex.bind f).bind fun ds T1 => .ok (.lst ds, true) T1))
    (q : ∀ a T' b ρ' G' H', r = .ok a T' → Tr ρ G H ρ' G' H' → Wd K ρ' G' H' T' → k ρ' G' H H' b a → Q b H') : Post K W0 k ρ G H σv Q r := by
  cases r with
  | ok a T' => exact fun b ρ' G' H' t w z => q a T' b ρ' G' H' rfl t w z
  | ex x T' => exact (show False from h).elim
  | bad => exact (show False from h).elim
abbrev lcF (F : Fi) (scope : Scope) : Fi := ⟨F.N, L2.relS scope F.sc, fun x => scope.names.lookup x == some .cell⟩
/-- what a comprehension needs, and what its reading comes to -/
structure LcS (X : Cx) (W : WX) (R : Dn) (F : Fi) (elt tg iter : Expr) (ifs : List Expr) (scope : Scope) : Prop where
  ok : BlkOk X.N X.env.scope scope (ownOf F.N scope)
  hi : PI X tg iter (RG X.K W (kI X.K false) (itM (pE R) R F tg iter))
  hg : ∀ (s : Shared) (H : Hp) (Ca : Addr) (cl : List (Str × Addr)) (fp : List Addr), PG (X.blk s H scope (compEnvC scope cl Ca X.env) fp) tg (gR X.K (slotsT (lcF F scope) tg) (bindT (lcF F scope) tg))
  ht : ∀ (s : Shared) (H : Hp) (Ca : Addr) (cl : List (Str × Addr)) (fp : List Addr), PTs (X.blk s H scope (compEnvC scope cl Ca X.env) fp) ifs (RG X.K W0 kB (ifsE R (lcF F scope) ifs))
  he : ∀ (s : Shared) (H : Hp) (Ca : Addr) (cl : List (Str × Addr)) (fp : List Addr), PE (X.blk s H scope (compEnvC scope cl Ca X.env) fp) elt (RG X.K W0 (kF X.K) (vE R (lcF F scope) elt))
  hs : ∀ x, foldedSetIterable iter X.env x = pure x
  im : ∀ σv H Q, RG X.K W (kV X.K) (lcE R F elt tg iter ifs scope) σv H Q → tLc (RG X.K W (kI X.K false) (itM (pE R) R F tg iter)) (gR X.K (slotsT (lcF F scope) tg) (bindT (lcF F scope) tg)) (RG X.K W0 kB (ifsE R (lcF F scope) ifs)) (RG X.K W0 (kF X.K) (vE R (lcF F scope) elt)) ((ownOf F.N scope).map (·.2)) σv H Q
theorem lc_sound (S : Snd G C R) (g : Gx X G C) (fit : Fit X F) (tk : L2N.Takes X W) (elt tg iter : Expr) (ifs : List Expr) (scope : Scope) :
    LcS X W R F elt tg iter ifs scope ∨ lcE R F elt tg iter ifs scope = EM.bad := by
  cases hc : L2.blkC F.N F.sc scope (ownOf F.N scope) && (slotsT (lcF F scope) tg).all (fun i => (ownOf F.N scope).any fun p => p.2 == i) && notSet iter with
  | false =>
    right
    unfold lcE
    rw [hc]
    rfl
  | true =>
    left
    have hb := hc
    simp only [Bool.and_eq_true, List.all_eq_true, List.any_eq_true, beq_iff_eq] at hb
    obtain ⟨⟨b1, b2⟩, b3⟩ := hb
    have okb : BlkOk X.N X.env.scope scope (ownOf F.N scope) := by
      rw [fit.N, fit.sc]
      exact blkOk_by b1
    have fit' : ∀ (s : Shared) (H : Hp) (Ca : Addr) (cl : List (Str × Addr)) (fp : List Addr), Fit (X.blk s H scope (compEnvC scope cl Ca X.env) fp) (lcF F scope) := fun s H Ca cl fp => by
      refine ⟨fit.N, ?_, rfl, fit.calm, fit.nd⟩
      show L2.relS scope X.env.scope = L2.relS scope F.sc
      rw [fit.sc]
    have g' : ∀ (s : Shared) (H : Hp) (Ca : Addr) (cl : List (Str × Addr)) (fp : List Addr), Gx (X.blk s H scope (compEnvC scope cl Ca X.env) fp) G C := fun s H Ca cl fp => ⟨g.fn, g.blt, g.cst, g.un⟩
    have sub : ∀ i ∈ slotsT (lcF F scope) tg, i ∈ (ownOf F.N scope).map (·.2) := fun i hi => by
      obtain ⟨p, hp, e⟩ := b2 i hi
      exact List.mem_map.mpr ⟨p, hp, e⟩
    have he : ∀ (s : Shared) (H : Hp) (Ca : Addr) (cl : List (Str × Addr)) (fp : List Addr), PE (X.blk s H scope (compEnvC scope cl Ca X.env) fp) elt (RG X.K W0 (kF X.K) (vE R (lcF F scope) elt)) := fun s H Ca cl fp => pe_vE (W := W0) S (g' s H Ca cl fp) (fit' s H Ca cl fp) takesN0 elt
    have ht : ∀ (s : Shared) (H : Hp) (Ca : Addr) (cl : List (Str × Addr)) (fp : List Addr), PTs (X.blk s H scope (compEnvC scope cl Ca X.env) fp) ifs (RG X.K W0 kB (ifsE R (lcF F scope) ifs)) := fun s H Ca cl fp => pts_ifs (W := W0) S (g' s H Ca cl fp) (fit' s H Ca cl fp) takesN0 ifs
    have hg : ∀ (s : Shared) (H : Hp) (Ca : Addr) (cl : List (Str × Addr)) (fp : List Addr), PG (X.blk s H scope (compEnvC scope cl Ca X.env) fp) tg (gR X.K (slotsT (lcF F scope) tg) (bindT (lcF F scope) tg)) := fun s H Ca cl fp => pg_bind (fit' s H Ca cl fp) tg
    refine ⟨okb, pi_itM (wk := false) S g fit tk (how_pE S g fit tk) iter, hg, ht, he, (fun x => by cases iter <;> first | rfl | cases b3), fun σv H Q ⟨ρ, Gh, T, σ, w, er, p⟩ => ?_⟩
    unfold lcE at p
    rw [hc, if_pos rfl] at p
    refine ⟨ρ, Gh, T, σ, w, er, (Post.bind kV_sh er p).mono ?_⟩
    rintro J H1 ⟨ρ1, G1, T1, items, kJ, t1, w1, er1, p1⟩ Da hD
    have hr1 := w1.rfree hD
    have hg1 := w1.gfree hD
    refine ⟨fun i m Hc => i ≤ items.length ∧ m = items.length - i ∧ ∃ ρ' G' T' acc vs, Tr ρ1 G1 H1 ρ' G' Hc ∧ Wd X.K ρ' G' Hc T' ∧ Hc Da = some (.lst vs) ∧ Rps X.K ρ' G' vs acc ∧ Da ∉ ρ' ∧ G' Da = none ∧
      Post X.K W (kV X.K) ρ1 G1 H1 σv Q ((lcLoop (bindT (lcF F scope) tg) (ifsE R (lcF F scope) ifs) (vE R (lcF F scope) elt) (wipeE σ ((ownOf F.N scope).map (·.2))) (items.drop i) acc T').bind fun ds T1 => .ok (.lst ds, true) T1),
      ⟨items.length, Nat.zero_le _, rfl, ρ1, G1, T1, [], [], Tr.refl.own hD _, w1.own hr1 hg1 _, upd_same, .nil, hr1, hg1, p1⟩, ?_⟩
    rintro i m Hc ⟨hi, rfl, ρ', G', T', acc, vs, t, w', hvs, racc, nr, ng, pp⟩
    obtain ⟨go, stop⟩ := kJ ρ' G' Hc T' t w'
    by_cases hlt : i < items.length
    · obtain ⟨d, hd⟩ : ∃ d, items[i]? = some d := ⟨_, List.getElem?_eq_getElem hlt⟩
      obtain ⟨go1, yl⟩ := go i d hd
      refine .inr ⟨go1, fun H' => ∃ ρ' G' T' acc vs, Tr ρ1 G1 H1 ρ' G' H' ∧ Wd X.K ρ' G' H' T' ∧ H' Da = some (.lst vs) ∧ Rps X.K ρ' G' vs acc ∧ Da ∉ ρ' ∧ G' Da = none ∧
        Post X.K W (kV X.K) ρ1 G1 H1 σv Q ((lcLoop (bindT (lcF F scope) tg) (ifsE R (lcF F scope) ifs) (vE R (lcF F scope) elt) (wipeE σ ((ownOf F.N scope).map (·.2))) (items.drop (i + 1)) acc T').bind fun ds T1 => .ok (.lst ds, true) T1),
        fun H' hn => ⟨items.length - (i + 1), by omega, by omega, rfl, hn⟩, fun x H3 hy => ?_⟩
      obtain ⟨G3, t3, w3, r3⟩ := yl x H3 hy
      rw [List.drop_eq_getElem_cons hlt] at pp
      have hde : items[i] = d := by
        rw [List.getElem?_eq_getElem hlt] at hd
        exact Option.some.inj hd
      rw [hde] at pp
      have bk : ∀ {ρa : List Addr} {Ga Ha : Hp} {Ta : Sto}, Tr ρ' G' Hc ρa Ga Ha → Wd X.K ρa Ga Ha Ta → Ha Da = some (.lst vs) ∧ Da ∉ ρa ∧ Ga Da = none := fun {ρa Ga Ha Ta} ta wa => by
        refine ⟨ta.keep _ _ hvs (.inl nr), fun z => ?_, ?_⟩
        · rcases ta.rnew _ z with z | z
          · exact nr z
          · rw [hvs] at z; cases z
        · cases q : Ga Da with
          | none => rfl
          | some o =>
            rcases ta.gnew Da (by rw [q]; exact fun z => nomatch z) with z | z
            · exact absurd ng z
            · rw [hvs] at z; cases z
      unfold lcLoop at pp
      cases etg : bindT (lcF F scope) tg d (wipeE σ ((ownOf F.N scope).map (·.2))) with
      | none => rw [etg] at pp; exact (show False from pp).elim
      | some σ1 =>
        rw [etg] at pp
        have pp : Post X.K W (kV X.K) ρ1 G1 H1 σv Q (((ifsE R (lcF F scope) ifs σ1 T').noex.bind fun b T1 => if b = true then (vE R (lcF F scope) elt σ1 T1).noex.bind fun y T2 => if decide (acc.length < 16777216) = true then lcLoop (bindT (lcF F scope) tg) (ifsE R (lcF F scope) ifs) (vE R (lcF F scope) elt) (wipeE σ ((ownOf F.N scope).map (·.2))) (items.drop (i + 1)) (acc ++ [y]) T2 else .bad else lcLoop (bindT (lcF F scope) tg) (ifsE R (lcF F scope) ifs) (vE R (lcF F scope) elt) (wipeE σ ((ownOf F.N scope).map (·.2))) (items.drop (i + 1)) acc T1).bind fun ds T1 => .ok (.lst ds, true) T1) := pp
        have t13 : Tr ρ1 G1 H1 ρ' G3 H3 := t.trans w' t3 w3
        refine ⟨ρ', G3, T', _, d, σ1, w3, (er1.tr t13).wipe _, r3, etg, fun σv1 er3 sm => ⟨?_, ?_⟩⟩
        · rw [sm.wipe sub]
          apply List.ext_getElem?
          intro j
          rw [wipe_get, wipe_get, wipe_length]
          split <;> rfl
        · refine ⟨ρ', G3, T', σ1, w3, er3, ps_noex (k := kB) pp fun b T4 b' ρ4 G4 H4 eb t4 w4 hb => ?_⟩
          have hb : b' = b := hb
          subst hb
          have t4' : Tr ρ' G' Hc ρ4 G4 H4 := t3.trans w3 t4 w4
          obtain ⟨h4D, n4, g4⟩ := bk t4' w4
          rw [eb] at pp
          cases b' with
          | false => exact ⟨ρ4, G4, T4, acc, vs, t.trans w' t4' w4, w4, h4D, racc.tr t4', n4, g4, pp⟩
          | true =>
            refine ⟨ρ4, G4, T4, σ1, w4, er3.tr t4, ps_noex (k := kF X.K) pp fun y T5 y' ρ5 G5 H5 ey t5 w5 hy5 => ?_⟩
            have t5' : Tr ρ' G' Hc ρ5 G5 H5 := t4'.trans w4 t5 w5
            obtain ⟨h5D, n5, g5⟩ := bk t5' w5
            have pp2 : Post X.K W (kV X.K) ρ1 G1 H1 σv Q (((vE R (lcF F scope) elt σ1 T4).noex.bind fun y T2 => if decide (acc.length < 16777216) then lcLoop (bindT (lcF F scope) tg) (ifsE R (lcF F scope) ifs) (vE R (lcF F scope) elt) (wipeE σ ((ownOf F.N scope).map (·.2))) (items.drop (i + 1)) (acc ++ [y]) T2 else .bad).bind fun ds T1 => .ok (.lst ds, true) T1) := pp
            rw [ey] at pp2
            by_cases hz : acc.length < 16777216
            · have pp3 : Post X.K W (kV X.K) ρ1 G1 H1 σv Q ((if decide (acc.length < 16777216) = true then lcLoop (bindT (lcF F scope) tg) (ifsE R (lcF F scope) ifs) (vE R (lcF F scope) elt) (wipeE σ ((ownOf F.N scope).map (·.2))) (items.drop (i + 1)) (acc ++ [y]) T5 else .bad).bind fun ds T1 => .ok (.lst ds, true) T1) := pp2
              rw [if_pos (decide_eq_true hz)] at pp3
              refine ⟨vs, h5D, by rw [racc.length]; exact hz, ρ5, G5, T5, acc ++ [y], vs ++ [y'], (t.trans w' t5' w5).own hD _, w5.own n5 g5 _, upd_same, (racc.tr t5').app (.one hy5), n5, g5, pp3⟩
            · have pp3 : Post X.K W (kV X.K) ρ1 G1 H1 σv Q ((if decide (acc.length < 16777216) = true then lcLoop (bindT (lcF F scope) tg) (ifsE R (lcF F scope) ifs) (vE R (lcF F scope) elt) (wipeE σ ((ownOf F.N scope).map (·.2))) (items.drop (i + 1)) (acc ++ [y]) T5 else .bad).bind fun ds T1 => .ok (.lst ds, true) T1) := pp2
              rw [if_neg (by simpa using hz)] at pp3
              exact (show False from pp3).elim
    · have hi' : i = items.length := by omega
      subst hi'
      refine .inl ⟨stop, ?_⟩
      rw [List.drop_length] at pp
      have pp : ∀ b ρ' G' H', Tr ρ1 G1 H1 ρ' G' H' → Wd X.K ρ' G' H' T' → kV X.K ρ' G' H1 H' b (D.lst acc, true) → Q b H' := pp
      exact pp _ ρ' G' Hc t w' (show Fresh X.K ρ' G' H1 Hc (.ref Da) (.lst acc) from ⟨Da, vs, acc, rfl, rfl, hvs, racc, nr, ng, hD⟩)
theorem st_lc (S : Snd G C R) (g : Gx X G C) (fit : Fit X F) (tk : L2N.Takes X W) (elt tg iter : Expr) (ifs : List Expr) (scope : Scope) (pos : Pos) :
    PE X (.ListComp elt [⟨tg, iter, ifs, 0⟩] scope pos) (RG X.K W (kV X.K) (lcE R F elt tg iter ifs scope)) := by
  rcases lc_sound S g fit tk elt tg iter ifs scope with h | h
  · exact (pe_lc fit.calm fit.nd h.hi h.ok h.hg h.ht h.he h.hs).imp h.im
  · rw [h]
    exact PE.bad fun _ _ => rfl
/-- name = [..] on one line -/
theorem st_setLc (S : Snd G C R) (g : Gx X G C) (fit : Fit X F) (tk : L2N.Takes X W) (elt tg iter : Expr) (ifs : List Expr) (scope : Scope) (pos spos py : Pos) (y : Str) (i : Nat) (hy : X.N[i]? = some y) (hyl : X.env.scope.names.lookup y = some .local)
    (hsw : swapsWith (.ListComp elt [⟨tg, iter, ifs, 0⟩] scope pos) (some (.Name y py)) spos.line X.env = pure true) :
    PS X (.Assign [.Name y py] (.ListComp elt [⟨tg, iter, ifs, 0⟩] scope pos) spos) (tAsg (RG X.K W (kV X.K) (lcE R F elt tg iter ifs scope)) (gName i)) := by
  rcases lc_sound S g fit tk elt tg iter ifs scope with h | h
  · have z := ps_setLc (py := py) (pos := pos) (spos := spos) fit.calm fit.nd hy hyl hsw h.hi h.ok h.hg h.ht h.he h.hs
    exact ⟨fun pins s σ H D I hw => z.run pins s σ H D I (h.im _ _ _ hw)⟩
  · rw [h]
    exact ⟨fun pins s σ H D I ⟨ρ, Gh, T, σ', _, _, p⟩ => (show False from p).elim⟩
end
end Mi


set_option Elab.async false
set_option linter.all false
set_option maxRecDepth 100000
/-! MiK: tests; the expressions' soundness. -/
namespace Mi
open PySem PySem.Spec PyProof.Rows L2
theorem PW.bad {X : Cx} {e : Expr} {W : WX} {α : Type} {k : Kd Bool α} {m : EM α} (h : ∀ σ T, m σ T = .bad) : PW X e (RG X.K W k m) := ⟨fun wh pins s σ H Q I hw => by
  obtain ⟨ρ, G, T, σ', _, _, p⟩ := hw
  rw [h] at p
  exact p.elim⟩
section
variable {X : Cx} {W : WX} {F : Fi} {G : Gi} {C : CallT} {R : Dn}
theorem st_tAll (S : Snd G C R) (g : Gx X G C) (fit : Fit X F) (tk : L2N.Takes X W) (pos : Pos) : ∀ es : List Expr, PW X (.BoolOp .And es pos) (RG X.K W kB (tAll R F es))
  | [] => ⟨fun wh pins s σv H Q I ⟨ρ, Gh, T, σ, w, er, p⟩ => isTrue_and_nil ⟨H, I, p true ρ Gh H .refl w rfl⟩⟩
  | [e] => (pw_and1 (S.tst X W F e g fit tk)).imp fun σv H Q ⟨ρ, Gh, T, σ, w, er, p⟩ => by
    refine ⟨ρ, Gh, T, σ, w, er, (Post.bind kB_sh er p).mono ?_⟩
    rintro k H1 ⟨ρ1, G1, T1, d1, k1, t1, w1, er1, p1⟩
    cases (show k = d1 from k1)
    cases k with
    | true => exact p1 true ρ1 G1 H1 .refl w1 rfl
    | false => exact p1 false ρ1 G1 H1 .refl w1 rfl
  | e :: e2 :: es => (pw_and (S.tst X W F e g fit tk) (st_tAll S g fit tk pos (e2 :: es))).imp fun σv H Q ⟨ρ, Gh, T, σ, w, er, p⟩ => by
    refine ⟨ρ, Gh, T, σ, w, er, (Post.bind kB_sh er p).mono ?_⟩
    rintro k H1 ⟨ρ1, G1, T1, d1, k1, t1, w1, er1, p1⟩
    cases (show k = d1 from k1)
    cases k with
    | true => exact ⟨ρ1, G1, T1, σ, w1, er1, p1⟩
    | false => exact p1 false ρ1 G1 H1 .refl w1 rfl
theorem st_tAny (S : Snd G C R) (g : Gx X G C) (fit : Fit X F) (tk : L2N.Takes X W) (pos : Pos) : ∀ es : List Expr, PW X (.BoolOp .Or es pos) (RG X.K W kB (tAny R F es))
  | [] => ⟨fun wh pins s σv H Q I ⟨ρ, Gh, T, σ, w, er, p⟩ => isTrue_or_nil ⟨H, I, p false ρ Gh H .refl w rfl⟩⟩
  | [e] => (pw_or1 (S.tst X W F e g fit tk)).imp fun σv H Q ⟨ρ, Gh, T, σ, w, er, p⟩ => by
    refine ⟨ρ, Gh, T, σ, w, er, (Post.bind kB_sh er p).mono ?_⟩
    rintro k H1 ⟨ρ1, G1, T1, d1, k1, t1, w1, er1, p1⟩
    cases (show k = d1 from k1)
    cases k with
    | true => exact p1 true ρ1 G1 H1 .refl w1 rfl
    | false => exact p1 false ρ1 G1 H1 .refl w1 rfl
  | e :: e2 :: es => (pw_or (S.tst X W F e g fit tk) (st_tAny S g fit tk pos (e2 :: es))).imp fun σv H Q ⟨ρ, Gh, T, σ, w, er, p⟩ => by
    refine ⟨ρ, Gh, T, σ, w, er, (Post.bind kB_sh er p).mono ?_⟩
    rintro k H1 ⟨ρ1, G1, T1, d1, k1, t1, w1, er1, p1⟩
    cases (show k = d1 from k1)
    cases k with
    | true => exact p1 true ρ1 G1 H1 .refl w1 rfl
    | false => exact ⟨ρ1, G1, T1, σ, w1, er1, p1⟩
theorem st_tNot (S : Snd G C R) (g : Gx X G C) (fit : Fit X F) (tk : L2N.Takes X W) (a : Expr) (pos : Pos) : PT X (.UnaryOp .Not a pos) (RG X.K W kB (EM.bind (R.tst F a) fun b => EM.pure (!b))) :=
  (pt_not (S.tst X W F a g fit tk)).imp fun σv H Q ⟨ρ, Gh, T, σ, w, er, p⟩ => by
    refine ⟨ρ, Gh, T, σ, w, er, (Post.bind kB_sh er p).mono ?_⟩
    rintro k H1 ⟨ρ1, G1, T1, d1, k1, t1, w1, er1, p1⟩
    cases (show k = d1 from k1)
    exact p1 _ ρ1 G1 H1 .refl w1 rfl
theorem st_truth (S : Snd G C R) (g : Gx X G C) (fit : Fit X F) (tk : L2N.Takes X W) {a : Expr} (he : ∀ whole, isTrue a X.env whole = (do let v ← whole; standAt a.pos; holding [v] (truthy v))) : PT X a (RG X.K W kB (EM.bind (pE R F a) fun x => EM.lift (truD x))) :=
  (pt_truth (pe_pE S g fit tk a) he).imp fun σv H Q ⟨ρ, Gh, T, σ, w, er, p⟩ => by
    refine ⟨ρ, Gh, T, σ, w, er, (Post.bind kB_sh er p).mono ?_⟩
    rintro x H1 ⟨ρ1, G1, T1, d1, k1, t1, w1, er1, p1⟩
    obtain ⟨b, e, p2⟩ := ok_lift1 p1
    exact ⟨b, truV w1.sub k1 e, p2 b ρ1 G1 H1 .refl w1 rfl⟩
theorem st_tst (S : Snd G C R) (g : Gx X G C) (fit : Fit X F) (tk : L2N.Takes X W) (e : Expr) : PT X e (RG X.K W kB (stepTst G C R F e)) := by
  unfold stepTst
  split
  · exact (st_tAll S g fit tk _ _).pt
  · exact (st_tAny S g fit tk _ _).pt
  · exact st_tNot S g fit tk _ _
  · split
    · rename_i hs
      exact st_cmpT S g fit tk _ _ _ _ hs
    · exact PT.bad fun _ _ => rfl
  · split
    · rename_i hs
      exact st_chainT S g fit tk _ _ _ _ _ _ hs
    · exact PT.bad fun _ _ => rfl
  · exact PT.bad fun _ _ => rfl
  · exact PT.bad fun _ _ => rfl
  · exact PT.bad fun _ _ => rfl
  · rename_i h1 h2 h3 h4 h5 h6 h7 h8
    refine st_truth S g fit tk fun whole => ?_
    cases e
    case BoolOp op es pos =>
      cases op
      · exact absurd rfl (h1 es pos)
      · exact absurd rfl (h2 es pos)
    case UnaryOp op x pos => exact absurd rfl (h8 op x pos)
    case Compare a b c d => exact absurd rfl (h6 a b c d)
    case IfExp a b c d => exact absurd rfl (h7 a b c d)
    all_goals rfl
theorem st_val (S : Snd G C R) (g : Gx X G C) (fit : Fit X F) (tk : L2N.Takes X W) (e : Expr) : PE X e (RG X.K W (kV X.K) (stepVal G C R F e)) := by
  unfold stepVal
  split
  · exact st_name g fit _ _
  · exact st_const _
  · exact st_bin S g fit tk _ _ _ _
  · exact st_neg S g fit tk _ _
  · exact st_not S g fit tk _ _
  · exact st_and S g fit tk _ _
  · exact st_or S g fit tk _ _
  · split
    · rename_i hs
      exact st_cmpV S g fit tk _ _ _ _ hs
    · exact PE.bad fun _ _ => rfl
  · split
    · rename_i hs
      exact st_chainV S g fit tk _ _ _ _ _ _ hs
    · exact PE.bad fun _ _ => rfl
  · exact st_ifx S g fit tk _ _ _ _
  · exact st_tup S g fit tk _ _ _
  · exact st_lst S g fit tk _ _
  · exact st_slice S g fit tk _ _ _ _ _
  · split
    · rename_i hs
      exact st_item S g fit tk _ _ _ hs
    · exact PE.bad fun _ _ => rfl
  · exact st_lc S g fit tk _ _ _ _ _ _
  · exact st_call S g fit tk _ _ _ _
  · exact PE.bad fun _ _ => rfl
end
theorem snd_dn (G : Gi) (C : CallT) : ∀ n : Nat, Snd G C (dn G C n)
  | 0 => ⟨fun X W F e g fit tk => PE.bad fun _ _ => rfl, fun X W F e g fit tk => PT.bad fun _ _ => rfl⟩
  | n + 1 => ⟨fun X W F e g fit tk => st_val (snd_dn G C n) g fit tk e, fun X W F e g fit tk => st_tst (snd_dn G C n) g fit tk e⟩
end Mi


set_option Elab.async false
set_option linter.all false
set_option maxRecDepth 100000
/-! MiL: statements: what is to be reached, and the lemmas under it. -/
namespace Mi
open PySem PySem.Spec PyProof.Rows L2
/-- a def's frame: owned lists are new since its entry -/
structure EnvS (K : PySem.W.Frag) (H0 : Hp) (ρ : List Addr) (G H : Hp) (σ : Env) (σv : L2.St) : Prop where
  er : EnvR K ρ G H σ σv
  ow : ∀ (i : Nat) (d : D) (a : Addr), σ[i]? = some (.ow d) → σv[i]? = some (some (V.ref a)) → H0 a = none
def PostS (K : PySem.W.Frag) (W : WX) (ρ0 : List Addr) (G0 H0 : Hp) (E : Ends) (ρ : List Addr) (G H : Hp) : RS → Prop
  | .nx σ T => ∀ ρ' G' H' σv, Tr ρ0 G0 H0 ρ' G' H' → TrW ρ G H ρ' G' H' → Wd K ρ' G' H' T → EnvS K H0 ρ' G' H' σ σv → E.nx σv H'
  | .bk σ T => ∀ ρ' G' H' σv, Tr ρ0 G0 H0 ρ' G' H' → TrW ρ G H ρ' G' H' → Wd K ρ' G' H' T → EnvS K H0 ρ' G' H' σ σv → E.bk σv H'
  | .ct σ T => ∀ ρ' G' H' σv, Tr ρ0 G0 H0 ρ' G' H' → TrW ρ G H ρ' G' H' → Wd K ρ' G' H' T → EnvS K H0 ρ' G' H' σ σv → E.ct σv H'
  | .rt d fl T => ∀ v ρ' G' H', Tr ρ0 G0 H0 ρ' G' H' → TrW ρ G H ρ' G' H' → Wd K ρ' G' H' T → kV K ρ' G' H0 H' v (d, fl) → E.rt v H'
  | .ex x σ T => ∀ cls d ρ' G' H' σv, Tr ρ0 G0 H0 ρ' G' H' → TrW ρ G H ρ' G' H' → Wd K ρ' G' H' T → EnvS K H0 ρ' G' H' σ σv → XR K ρ' G' H' x cls d → W cls d σv H'
  | .bad => False
def SR (K : PySem.W.Frag) (W : WX) (m : SM) : TS := fun E σv H => ∃ ρ0 G0 H0 ρ G T σ, Tr ρ0 G0 H0 ρ G H ∧ Wd K ρ G H T ∧ EnvS K H0 ρ G H σ σv ∧ PostS K W ρ0 G0 H0 E ρ G H (m σ T)
theorem _root_.L2.PS.imp {X : Cx} {st : Stmt} {t t' : TS} (h : PS X st t) (i : ∀ E σ H, t' E σ H → t E σ H) : PS X st t' := ⟨fun pins s σ H E I hw => h.run pins s σ H E I (i E σ H hw)⟩
theorem _root_.L2.PSs.imp {X : Cx} {st : List Stmt} {t t' : TS} (h : PSs X st t) (i : ∀ E σ H, t' E σ H → t E σ H) : PSs X st t' := ⟨fun pins s σ H E I hw => h.run pins s σ H E I (i E σ H hw)⟩
theorem PS.bad {X : Cx} {st : Stmt} {W : WX} {m : SM} (h : ∀ σ T, m σ T = .bad) : PS X st (SR X.K W m) := ⟨fun pins s σ H E I hw => by
  obtain ⟨ρ0, G0, H0, ρ, G, T, σ', _, _, _, p⟩ := hw
  rw [h] at p
  exact p.elim⟩
section
variable {K : PySem.W.Frag} {W : WX} {ρ0 ρ ρ1 : List Addr} {G0 G G1 H0 H H1 : Hp} {σv : L2.St} {σ : Env} {T T1 : Sto} {E : Ends}
theorem EnvS.tr (t : Tr ρ G H ρ1 G1 H1) (h : EnvS K H0 ρ G H σ σv) : EnvS K H0 ρ1 G1 H1 σ σv := ⟨h.er.tr t, h.ow⟩
theorem PostS.shift {r : RS} (h : PostS K W ρ0 G0 H0 E ρ G H r) (t : TrW ρ G H ρ1 G1 H1) : PostS K W ρ0 G0 H0 E ρ1 G1 H1 r := by
  cases r with
  | nx σ T => exact fun ρ' G' H' σv a b c d => h ρ' G' H' σv a (t.trans b) c d
  | bk σ T => exact fun ρ' G' H' σv a b c d => h ρ' G' H' σv a (t.trans b) c d
  | ct σ T => exact fun ρ' G' H' σv a b c d => h ρ' G' H' σv a (t.trans b) c d
  | rt d fl T => exact fun v ρ' G' H' a b c e => h v ρ' G' H' a (t.trans b) c e
  | ex x σ T => exact fun cls d ρ' G' H' σv a b c e f => h cls d ρ' G' H' σv a (t.trans b) c e f
  | bad => exact h
theorem PostS.expr {α β : Type} {k : Kd β α} {m : EM α} {f : α → Sto → RS} (t0 : Tr ρ0 G0 H0 ρ G H) (w : Wd K ρ G H T) (es : EnvS K H0 ρ G H σ σv) (p : PostS K W ρ0 G0 H0 E ρ G H ((m σ T).then_ σ f)) :
    Post K W k ρ G H σv (fun b H1 => ∃ ρ1 G1 T1 a, k ρ1 G1 H H1 b a ∧ Tr ρ G H ρ1 G1 H1 ∧ Tr ρ0 G0 H0 ρ1 G1 H1 ∧ Wd K ρ1 G1 H1 T1 ∧ EnvS K H0 ρ1 G1 H1 σ σv ∧ PostS K W ρ0 G0 H0 E ρ1 G1 H1 (f a T1)) (m σ T) := by
  cases e : m σ T with
  | ok a T1 =>
    rw [e] at p
    exact fun b ρ1 G1 H1 t w1 z => ⟨ρ1, G1, T1, a, z, t, t0.trans w t w1, w1, es.tr t, PostS.shift p t.w⟩
  | ex x T1 =>
    rw [e] at p
    exact fun cls d ρ1 G1 H1 t w1 z => p cls d ρ1 G1 H1 σv (t0.trans w t w1) t.w w1 (es.tr t) z
  | bad =>
    rw [e] at p
    exact (show False from p).elim
/-- kinds from the entry on -/
theorem kV.from (t0 : Tr ρ0 G0 H0 ρ G H) (t : Tr ρ G H ρ1 G1 H1) {v : V} {r : D × Bool} (h : kV K ρ1 G1 H H1 v r) : kV K ρ1 G1 H0 H1 v r := kV_sh.sh t0 t.pre h

/-! ### the frame's names -/
theorem get_set_cases {α : Type} {l : List α} {i j : Nat} {x y : α} (h : (l.set i x)[j]? = some y) : (i = j ∧ y = x) ∨ (i ≠ j ∧ l[j]? = some y) := by
  by_cases hj : i = j
  · subst hj
    rw [List.getElem?_set] at h
    simp only [if_true] at h
    split at h
    · cases h; exact .inl ⟨rfl, rfl⟩
    · cases h
  · rw [List.getElem?_set_ne hj] at h
    exact .inr ⟨hj, h⟩
theorem EnvS.set (h : EnvS K H0 ρ G H σ σv) {v : V} {d : D} (r : Rp K ρ G v d) (i : Nat) : EnvS K H0 ρ G H (σ.set i (.fz d)) (σv.set i (some v)) := by
  refine ⟨h.er.set r i, fun j e a e1 e2 => ?_⟩
  rcases get_set_cases e1 with ⟨_, z⟩ | ⟨n, e1⟩
  · cases z
  · rw [List.getElem?_set_ne n] at e2
    exact h.ow j e a e1 e2
/-- a new list gets a name -/
theorem EnvS.setOw (h : EnvS K H0 ρ G H σ σv) {a : Addr} {vs : List V} {ds : List D} (ha : H a = some (.lst vs)) (r : Rps K ρ G vs ds) (n : a ∉ ρ) (g : G a = none) (h0 : H0 a = none)
    (nw : ∀ (i : Nat) (d : D), σ[i]? = some (.ow d) → σv[i]? ≠ some (some (V.ref a))) (i : Nat) : EnvS K H0 ρ G H (σ.set i (.ow (.lst ds))) (σv.set i (some (V.ref a))) := by
  refine ⟨⟨by rw [List.length_set, List.length_set, h.er.len], fun j s u e1 e2 => ?_, fun j k d1 d2 b e1 e2 e3 e4 => ?_⟩, fun j e b e1 e2 => ?_⟩
  · rcases get_set_cases e1 with ⟨ej, es⟩ | ⟨nj, e1⟩
    · subst ej es
      rcases get_set_cases e2 with ⟨_, eu⟩ | ⟨nj, _⟩
      · subst eu
        exact ⟨a, vs, ds, rfl, rfl, ha, r, n, g⟩
      · exact absurd rfl nj
    · rw [List.getElem?_set_ne nj] at e2
      exact h.er.at_ j s u e1 e2
  · rcases get_set_cases e1 with ⟨ej, es⟩ | ⟨nj, e1⟩
    · rcases get_set_cases e2 with ⟨ek, es2⟩ | ⟨nk, e2⟩
      · rw [← ej, ← ek]
      · exfalso
        subst ej
        rw [List.getElem?_set_ne nk] at e4
        rcases get_set_cases e3 with ⟨_, eb⟩ | ⟨nj, _⟩
        · cases eb
          exact nw k d2 e2 e4
        · exact nj rfl
    · rw [List.getElem?_set_ne nj] at e3
      rcases get_set_cases e2 with ⟨ek, es2⟩ | ⟨nk, e2⟩
      · exfalso
        subst ek
        rcases get_set_cases e4 with ⟨_, eb⟩ | ⟨nk, _⟩
        · cases eb
          exact nw j d1 e1 e3
        · exact nk rfl
      · rw [List.getElem?_set_ne nk] at e4
        exact h.er.dist j k d1 d2 b e1 e2 e3 e4
  · rcases get_set_cases e1 with ⟨ej, es⟩ | ⟨nj, e1⟩
    · subst ej
      rcases get_set_cases e2 with ⟨_, eb⟩ | ⟨nj, _⟩
      · cases eb
        exact h0
      · exact absurd rfl nj
    · rw [List.getElem?_set_ne nj] at e2
      exact h.ow j e b e1 e2
/-- an owned list is changed -/
theorem EnvS.mut (h : EnvS K H0 ρ G H σ σv) {i : Nat} {a : Addr} {d : D} {ws : List V} {ys : List D} (e : σ[i]? = some (.ow d)) (ev : σv[i]? = some (some (V.ref a))) (r : Rps K ρ G ws ys) : EnvS K H0 ρ G (upd H a (.lst ws)) (σ.set i (.ow (.lst ys))) σv := by
  obtain ⟨b, vs, ds, eb, ed, ha, rr, n, g⟩ : SloR K ρ G H (.ow d) (some (V.ref a)) := h.er.at_ i _ _ e ev
  cases eb
  refine ⟨⟨by rw [List.length_set, h.er.len], fun j s u e1 e2 => ?_, fun j k d1 d2 b e1 e2 e3 e4 => ?_⟩, fun j d2 b e1 e2 => ?_⟩
  · rcases get_set_cases e1 with ⟨ej, es⟩ | ⟨nj, e1⟩
    · subst ej es
      rw [ev] at e2
      cases e2
      exact ⟨a, ws, ys, rfl, rfl, upd_same, r, n, g⟩
    · have q := h.er.at_ j s u e1 e2
      cases s with
      | no => trivial
      | fz d2 => exact q
      | ow d2 =>
        obtain ⟨b, vs2, ds2, eb, ed2, hb, rb, nb, gb⟩ := q
        subst eb
        have : b ≠ a := fun z => by
          subst z
          exact nj (h.er.dist i j d d2 b e e1 ev e2)
        exact ⟨b, vs2, ds2, rfl, ed2, by rw [upd_ne this]; exact hb, rb, nb, gb⟩
  · have f : ∀ {m : Nat} {d' : D}, (σ.set i (.ow (.lst ys)))[m]? = some (Sl.ow d') → ∃ d'', σ[m]? = some (Sl.ow d'') := fun {m d'} q => by
      rcases get_set_cases q with ⟨em, _⟩ | ⟨_, q⟩
      · subst em; exact ⟨_, e⟩
      · exact ⟨_, q⟩
    obtain ⟨x1, f1⟩ := f e1
    obtain ⟨x2, f2⟩ := f e2
    exact h.er.dist j k x1 x2 b f1 f2 e3 e4
  · rcases get_set_cases e1 with ⟨ej, es⟩ | ⟨nj, e1⟩
    · subst ej
      exact h.ow i d b e e2
    · exact h.ow j d2 b e1 e2
theorem TrW.own {a : Addr} {vs : List V} {o : HO} (ha : H a = some (.lst vs)) : TrW ρ G H ρ G (upd H a o) := by
  refine ⟨fun _ _ e => e, fun _ _ e => e, fun b u e f => ?_⟩
  have : b ≠ a := fun z => by
    subst z
    rw [ha] at e
    cases e
    exact f
  rw [upd_ne this]
  exact e
/-- what lies in a name's slot -/
theorem EnvS.slot (h : EnvS K H0 ρ G H σ σv) {i : Nat} {d : D} (e : σ[i]? = some (.ow d)) : ∃ a vs ds, σv[i]? = some (some (V.ref a)) ∧ d = .lst ds ∧ H a = some (.lst vs) ∧ Rps K ρ G vs ds ∧ a ∉ ρ ∧ G a = none ∧ H0 a = none := by
  obtain ⟨v, ev, a, vs, ds, eq, ed, ha, r, n, g⟩ := h.er.look e
  subst eq
  exact ⟨a, vs, ds, ev, ed, ha, r, n, g, h.ow i d a e ev⟩
/-- owned lists are frozen -/
theorem EnvS.frz1 (t0 : Tr ρ0 G0 H0 ρ G H) (w : Wd K ρ G H T) (h : EnvS K H0 ρ G H σ σv) {i : Nat} {s : Sl} (e : σ[i]? = some s) : ∃ G', Tr ρ0 G0 H0 ρ G' H ∧ TrW ρ G H ρ G' H ∧ Wd K ρ G' H T ∧ EnvS K H0 ρ G' H (σ.set i (frzS s)) σv := by
  have same : σ.set i s = σ := by
    apply List.ext_getElem?
    intro j
    rw [List.getElem?_set]
    split
    · rename_i ej
      subst ej
      rw [e]
      split
      · rfl
      · rename_i hl
        rw [List.getElem?_eq_none (by omega)] at e
        cases e
    · rfl
  cases s with
  | no => exact ⟨G, t0, .refl, w, by unfold frzS; rw [same]; exact h⟩
  | fz d => exact ⟨G, t0, .refl, w, by unfold frzS; rw [same]; exact h⟩
  | ow d =>
    obtain ⟨a, vs, ds, ev, ed, ha, r, n, g, h0⟩ := h.slot e
    subst ed
    have sb := sub_frz (HO.lst vs) g
    refine ⟨upd G a (.lst vs), t0.frz _ g h0, ⟨fun _ _ e => e, sb, fun _ _ e _ => e⟩, w.frz ha n g, ⟨⟨by rw [List.length_set, h.er.len], fun j s u e1 e2 => ?_, fun j k d1 d2 b e1 e2 e3 e4 => ?_⟩, fun j d2 b e1 e2 => ?_⟩⟩
    · rcases get_set_cases e1 with ⟨ej, es⟩ | ⟨nj, e1⟩
      · subst ej es
        rw [ev] at e2
        cases e2
        exact ⟨_, rfl, .lst upd_same (Rps.mono sb (fun _ _ e => e) _ _ r)⟩
      · have q := h.er.at_ j s u e1 e2
        cases s with
        | no => trivial
        | fz d2 => obtain ⟨x, ex, rx⟩ := q; exact ⟨x, ex, Rp.mono sb (fun _ _ e => e) _ _ rx⟩
        | ow d2 =>
          obtain ⟨b, vs2, ds2, eb, ed2, hb, rb, nb, gb⟩ := q
          subst eb
          have : b ≠ a := fun z => by
            subst z
            exact nj (h.er.dist i j _ d2 b e e1 ev e2)
          exact ⟨b, vs2, ds2, rfl, ed2, hb, Rps.mono sb (fun _ _ e => e) _ _ rb, nb, by rw [upd_ne this]; exact gb⟩
    · rcases get_set_cases e1 with ⟨_, z⟩ | ⟨nj, e1⟩
      · cases z
      · rcases get_set_cases e2 with ⟨_, z⟩ | ⟨nk, e2⟩
        · cases z
        · exact h.er.dist j k d1 d2 b e1 e2 e3 e4
    · rcases get_set_cases e1 with ⟨_, z⟩ | ⟨nj, e1⟩
      · cases z
      · exact h.ow j d2 b e1 e2
theorem EnvS.frzNs (F : Fi) : ∀ (xs : List Str) {σ : Env} {G : Hp}, Tr ρ0 G0 H0 ρ G H → Wd K ρ G H T → EnvS K H0 ρ G H σ σv → ∃ G', Tr ρ0 G0 H0 ρ G' H ∧ TrW ρ G H ρ G' H ∧ Wd K ρ G' H T ∧ EnvS K H0 ρ G' H (Mi.frzNs F xs σ) σv
  | [], σ, G, t0, w, h => ⟨G, t0, .refl, w, h⟩
  | x :: xs, σ, G, t0, w, h => by
    unfold Mi.frzNs
    split
    · rename_i i _
      split
      · rename_i s e
        obtain ⟨G1, t1, u1, w1, h1⟩ := h.frz1 t0 w e
        obtain ⟨G2, t2, u2, w2, h2⟩ := EnvS.frzNs F xs t1 w1 h1
        exact ⟨G2, t2, u1.trans u2, w2, h2⟩
      · exact EnvS.frzNs F xs t0 w h
    · exact EnvS.frzNs F xs t0 w h
theorem EnvS.frzE (Gm : Gi) (F : Fi) (l : Nat) (t0 : Tr ρ0 G0 H0 ρ G H) (w : Wd K ρ G H T) (h : EnvS K H0 ρ G H σ σv) : ∃ G', Tr ρ0 G0 H0 ρ G' H ∧ TrW ρ G H ρ G' H ∧ Wd K ρ G' H T ∧ EnvS K H0 ρ G' H (Mi.frzE Gm F l σ) σv := by
  unfold Mi.frzE
  split
  · exact EnvS.frzNs F _ t0 w h
  · exact ⟨G, t0, .refl, w, h⟩
/-- a store object more -/
theorem Wd.push (w : Wd K ρ G H T) {a : Addr} {vs : List V} {ds : List D} (ha : H a = some (.lst vs)) (r : Rps K ρ G vs ds) (n : a ∉ ρ) (g : G a = none) : Wd K (ρ ++ [a]) G H (T ++ [.lst ds]) := by
  have pre : Pre ρ (ρ ++ [a]) := fun m b e => by
    rw [List.getElem?_append_left (List.getElem?_eq_some_iff.mp e).1]
    exact e
  refine ⟨w.sub, by rw [List.length_append, List.length_append, w.len]; rfl, fun m ob e => ?_, ?_, fun b hb => ?_⟩
  · by_cases hm : m < T.length
    · rw [List.getElem?_append_left hm] at e
      obtain ⟨b, hb, ro⟩ := w.sto m ob e
      exact ⟨b, pre m b hb, ro.mono (fun _ _ e => e) pre⟩
    · have hm' : m = T.length := by
        have := (List.getElem?_eq_some_iff.mp e).1
        rw [List.length_append] at this
        have l1 : [Ob.lst ds].length = 1 := rfl
        omega
      subst hm'
      rw [List.getElem?_append_right (Nat.le_refl _), Nat.sub_self] at e
      cases e
      refine ⟨a, ?_, vs, ha, Rps.mono (fun _ _ e => e) pre _ _ r⟩
      rw [← w.len, List.getElem?_append_right (Nat.le_refl _), Nat.sub_self]
      rfl
  · rw [List.nodup_append]
    refine ⟨w.nd, by simp, fun x hx y hy => ?_⟩
    simp only [List.mem_singleton] at hy
    subst hy
    rintro rfl
    exact n hx
  · rw [List.mem_append, List.mem_singleton] at hb
    rcases hb with hb | hb
    · exact w.dj b hb
    · rw [hb]; exact g
theorem pre_app {a : Addr} : Pre ρ (ρ ++ [a]) := fun m b e => by
  rw [List.getElem?_append_left (List.getElem?_eq_some_iff.mp e).1]
  exact e
/-- a store object is changed -/
theorem Wd.sset (w : Wd K ρ G H T) {n : Nat} {a : Addr} {ws : List V} {ys : List D} (hr : ρ[n]? = some a) (r : Rps K ρ G ws ys) : Wd K ρ G (upd H a (.lst ws)) (T.set n (.lst ys)) := by
  have hga := w.dj a (List.mem_of_getElem? hr)
  refine ⟨fun b u e => ?_, by rw [List.length_set]; exact w.len, fun m ob e => ?_, w.nd, w.dj⟩
  · have : b ≠ a := fun z => by rw [z, hga] at e; cases e
    rw [upd_ne this]
    exact w.sub b u e
  · rcases get_set_cases e with ⟨em, eo⟩ | ⟨nm, e⟩
    · subst em eo
      exact ⟨a, hr, ws, upd_same, r⟩
    · obtain ⟨b, hb, ro⟩ := w.sto m ob e
      refine ⟨b, hb, ?_⟩
      have : b ≠ a := fun z => by
        subst z
        obtain ⟨i1, e1⟩ := List.getElem?_eq_some_iff.mp hb
        obtain ⟨i2, e2⟩ := List.getElem?_eq_some_iff.mp hr
        have pw := List.pairwise_iff_getElem.mp w.nd
        rcases Nat.lt_trichotomy n m with h | h | h
        · exact pw n m i2 i1 h (by rw [e1, e2])
        · exact nm h
        · exact pw m n i1 i2 h (by rw [e1, e2])
      rw [upd_ne this]
      exact ro
/-- a store object's change seen from the entry -/
theorem Tr.sset (t0 : Tr ρ0 G0 H0 ρ G H) {a : Addr} {vs : List V} (hr : a ∈ ρ) (ha : H a = some (.lst vs)) (o : HO) : Tr ρ0 G0 H0 ρ G (upd H a o) := by
  refine ⟨t0.pre, t0.rnew, t0.gsub, t0.gnew, fun b u e h => ?_⟩
  have q := t0.keep b u e h
  have : b ≠ a := fun z => by
    subst z
    rcases h with h | h
    · rcases t0.rnew b hr with z | z
      · exact h z
      · rw [e] at z; cases z
    · rw [ha] at q
      cases q
      exact h
  rw [upd_ne this]
  exact q
theorem EnvS.sset (h : EnvS K H0 ρ G H σ σv) {a : Addr} (hr : a ∈ ρ) (o : HO) : EnvS K H0 ρ G (upd H a o) σ σv := by
  refine ⟨⟨h.er.len, fun j s u e1 e2 => ?_, h.er.dist⟩, h.ow⟩
  have q := h.er.at_ j s u e1 e2
  cases s with
  | no => trivial
  | fz d => exact q
  | ow d =>
    obtain ⟨b, vs2, ds2, eb, ed2, hb, rb, nb, gb⟩ := q
    have : b ≠ a := fun z => nb (z ▸ hr)
    exact ⟨b, vs2, ds2, eb, ed2, by rw [upd_ne this]; exact hb, rb, nb, gb⟩
/-- more store addresses -/
theorem EnvS.push (h : EnvS K H0 ρ G H σ σv) {a : Addr} (nw : ∀ (i : Nat) (d : D), σ[i]? = some (.ow d) → σv[i]? ≠ some (some (V.ref a))) : EnvS K H0 (ρ ++ [a]) G H σ σv := by
  refine ⟨⟨h.er.len, fun j s u e1 e2 => ?_, h.er.dist⟩, h.ow⟩
  have q := h.er.at_ j s u e1 e2
  cases s with
  | no => trivial
  | fz d => obtain ⟨x, ex, rx⟩ := q; exact ⟨x, ex, Rp.mono (fun _ _ e => e) pre_app _ _ rx⟩
  | ow d =>
    obtain ⟨b, vs2, ds2, eb, ed2, hb, rb, nb, gb⟩ := q
    subst eb
    refine ⟨b, vs2, ds2, rfl, ed2, hb, Rps.mono (fun _ _ e => e) pre_app _ _ rb, fun z => ?_, gb⟩
    rw [List.mem_append, List.mem_singleton] at z
    rcases z with z | z
    · exact nb z
    · subst z
      exact nw j d e1 e2
end
/-- a name gets a value -/
theorem put_ok {K : PySem.W.Frag} {W : WX} {ρ0 ρ ρ1 : List Addr} {G0 G G1 H0 H H1 : Hp} {σv : L2.St} {σ : Env} {T T1 : Sto} {E : Ends} {Gm : Gi} {i : Nat} {x : Str} {v : V} {d : D} {fl : Bool}
    (es : EnvS K H0 ρ G H σ σv) (t : Tr ρ G H ρ1 G1 H1) (t0 : Tr ρ0 G0 H0 ρ G H) (w : Wd K ρ G H T) (w1 : Wd K ρ1 G1 H1 T1) (kv : kV K ρ1 G1 H H1 v (d, fl)) (p : PostS K W ρ0 G0 H0 E ρ1 G1 H1 (put Gm i x d fl σ T1)) : E.nx (σv.set i (some v)) H1 := by
  have t01 := t0.trans w t w1
  have es1 := es.tr t
  have nw : ∀ {a : Addr}, H a = none → ∀ (j : Nat) (e : D), σ[j]? = some (.ow e) → σv[j]? ≠ some (some (V.ref a)) := fun {a} ha j e ej ev => by
    obtain ⟨b, vs, ds, ev', _, hb, _⟩ := es.slot ej
    rw [ev] at ev'
    cases ev'
    rw [ha] at hb
    cases hb
  have h0 : ∀ {a : Addr}, a ∉ ρ1 → H a = none → H0 a = none := fun {a} n ha => by
    rcases t0.back ha with z | z
    · exact absurd (t.pre.mem (t0.pre.mem z)) n
    · exact z
  unfold put at p
  split at p
  · split at p
    · rename_i ds
      obtain ⟨a, vs, ds', rfl, ed, ha, r, n, g, hn⟩ : Fresh K ρ1 G1 H H1 v (.lst ds) := kv
      cases ed
      have wp := w1.push ha r n g
      refine p (ρ1 ++ [a]) G1 H1 _ ⟨fun m b e => pre_app m b (t01.pre m b e), fun b hb => ?_, t01.gsub, t01.gnew, t01.keep⟩ ⟨pre_app, fun _ _ e => e, fun _ _ e _ => e⟩ wp ((es1.push (nw hn)).set (.obj ?_) i)
      · rw [List.mem_append, List.mem_singleton] at hb
        rcases hb with hb | hb
        · exact t01.rnew b hb
        · rw [hb]; exact .inr (h0 n hn)
      · rw [← w1.len, List.getElem?_append_right (Nat.le_refl _), Nat.sub_self]
        rfl
    · exact (show False from p).elim
  · cases fl with
    | false => exact p ρ1 G1 H1 _ t01 .refl w1 (es1.set (show Rp K ρ1 G1 v d from kv) i)
    | true =>
      obtain ⟨a, vs, ds', rfl, ed, ha, r, n, g, hn⟩ : Fresh K ρ1 G1 H H1 v d := kv
      subst ed
      exact p ρ1 G1 H1 _ t01 .refl w1 (es1.setOw ha r n g (h0 n hn) (nw hn) i)
end Mi


set_option Elab.async false
set_option linter.all false
set_option maxRecDepth 100000
/-! MiM: the statements' soundness. -/
namespace Mi
open PySem PySem.Spec PyProof.Rows L2
/-- what raise X(..) is to reach -/
def mkR (K : PySem.W.Frag) (W : WX) (EI : Ei) (x : Str) (m : EM (List D)) : L2.St → Hp → XK → Prop := fun σv H Q =>
  RG K W (kA K) m σv H (fun vs H1 => ∃ ρ G T ds e, Wd K ρ G H1 T ∧ Rps K ρ G vs ds ∧ EI.mkX x ds = some e ∧ ∀ cls d ρ' G' H', Tr ρ G H1 ρ' G' H' → Wd K ρ' G' H' T → XR K ρ' G' H' e cls d → Q cls d H')
structure Sx (G : Gi) (EI : Ei) (C : CallT) (U : ExtT) (X : Cx) (W : WX) : Prop where
  po : PassesOwn (model X.prog X.w) X.A X.env X.xe
  mkx : ∀ (R : Dn) (F : Fi) (x : Str) (p : Pos) (args : List Expr) (pos : Pos), Snd G C R → Fit X F → isGl F.sc x = true → isDbg x = false → EI.has x args.length = true → L2N.PMk X (.Call (.Name x p) args [] pos) (mkR X.K W EI x (aE R F args))
  ext : ∀ (R : Dn) (F : Fi) (st : Stmt) (m : SM), Snd G C R → Fit X F → U C R F st = some m → PS X st (SR X.K W m)
/-- name = [..] in the exchanged form -/
def SndL (G : Gi) (C : CallT) (R : Dn) : Prop := ∀ (X : Cx) (W : WX) (F : Fi) (elt : Expr) (gs : List Comprehension) (scope : Scope) (pos spos py : Pos) (y : Str) (i : Nat), Gx X G C → Fit X F → L2N.Takes X W → X.N[i]? = some y → X.env.scope.names.lookup y = some .local →
  swapsWith (.ListComp elt gs scope pos) (some (.Name y py)) spos.line X.env = pure true → PS X (.Assign [.Name y py] (.ListComp elt gs scope pos) spos) (tAsg (RG X.K W (kV X.K) (R.val F (.ListComp elt gs scope pos))) (gName i))
theorem sndL_dn (G : Gi) (C : CallT) : ∀ n : Nat, SndL G C (dn G C n)
  | 0 => fun X W F elt gs scope pos spos py y i g fit tk hy hyl hsw => ⟨fun pins s σ H D I ⟨ρ, Gh, T, σ', _, _, p⟩ => (show False from p).elim⟩
  | n + 1 => fun X W F elt gs scope pos spos py y i g fit tk hy hyl hsw => by
    show PS X _ (tAsg (RG X.K W (kV X.K) (stepVal G C (dn G C n) F (.ListComp elt gs scope pos))) (gName i))
    have bad : ∀ {m : EM (D × Bool)}, (∀ σ T, m σ T = .bad) → PS X (.Assign [.Name y py] (.ListComp elt gs scope pos) spos) (tAsg (RG X.K W (kV X.K) m) (gName i)) := fun {m} hm => ⟨fun pins s σ H D I ⟨ρ, Gh, T, σ', _, _, p⟩ => by
      rw [hm] at p
      exact (show False from p).elim⟩
    cases gs with
    | nil => exact bad fun _ _ => rfl
    | cons c cs =>
      obtain ⟨tg, iter, ifs, na⟩ := c
      cases cs with
      | cons c2 cs =>
        cases na with
        | ofNat n => cases n <;> exact bad fun _ _ => rfl
        | negSucc n => exact bad fun _ _ => rfl
      | nil =>
        cases na with
        | ofNat n =>
          cases n with
          | zero => exact st_setLc (snd_dn G C _) g fit tk elt tg iter ifs scope pos spos py y i hy hyl hsw
          | succ n => exact bad fun _ _ => rfl
        | negSucc n => exact bad fun _ _ => rfl

section
variable {X : Cx} {W : WX} {F : Fi} {G : Gi} {EI : Ei} {C : CallT} {U : ExtT} {R : Dn}
theorem sm_pass {pos : Pos} : PS X (.Pass pos) (SR X.K W fun σ T => .nx σ T) := ps_pass.imp fun E σv H ⟨ρ0, G0, H0, ρ, Gh, T, σ, t0, w, es, p⟩ => p ρ Gh H σv t0 .refl w es
theorem sm_break {pos : Pos} : PS X (.Break pos) (SR X.K W fun σ T => .bk σ T) := ps_break.imp fun E σv H ⟨ρ0, G0, H0, ρ, Gh, T, σ, t0, w, es, p⟩ => p ρ Gh H σv t0 .refl w es
theorem sm_cont {pos : Pos} : PS X (.Continue pos) (SR X.K W fun σ T => .ct σ T) := ps_continue.imp fun E σv H ⟨ρ0, G0, H0, ρ, Gh, T, σ, t0, w, es, p⟩ => p ρ Gh H σv t0 .refl w es
theorem sm_retN {pos : Pos} : PS X (.Return none pos) (SR X.K W fun _ T => .rt .non false T) := ps_retN.imp fun E σv H ⟨ρ0, G0, H0, ρ, Gh, T, σ, t0, w, es, p⟩ => p .non ρ Gh H t0 .refl w .non
theorem sm_retVar (fit : Fit X F) {x : Str} {p pos : Pos} {i : Nat} (hd : isDbg x = false) (hs : slot F x = some i) : PS X (.Return (some (.Name x p)) pos) (SR X.K W fun σ T => (match σ[i]? with
      | some (.fz d) => .rt d false T
      | some (.ow d) => .rt d true T
      | _ => .bad)) := by
  obtain ⟨hN, hv⟩ := slot_ok fit hs
  obtain ⟨h1, h2, _⟩ := isDbg_ok hd
  refine (ps_ret (pe_var hN hv h1 h2)).imp fun E σv H ⟨ρ0, G0, H0, ρ, Gh, T, σ, t0, w, es, p⟩ => ?_
  simp only at p
  split at p
  · rename_i d e
    obtain ⟨v, e2, r⟩ := es.er.fz e
    exact ⟨v, e2, p v ρ Gh H t0 .refl w r⟩
  · rename_i d e
    obtain ⟨a, vs, ds, ev, ed, ha, r, n, g, h0⟩ := es.slot e
    exact ⟨_, ev, p _ ρ Gh H t0 .refl w (show Fresh X.K ρ Gh H0 H (.ref a) d from ⟨a, vs, ds, rfl, ed, ha, r, n, g, h0⟩)⟩
  · exact (show False from p).elim
theorem sm_ret (S : Snd G C R) (g : Gx X G C) (fit : Fit X F) (tk : L2N.Takes X W) (e : Expr) (pos : Pos) : PS X (.Return (some e) pos) (SR X.K W fun σ T => (R.val F e σ T).then_ σ fun d T1 => .rt d.1 d.2 T1) := by
  refine (ps_ret (S.val X W F e g fit tk)).imp fun E σv H ⟨ρ0, G0, H0, ρ, Gh, T, σ, t0, w, es, p⟩ => ?_
  refine ⟨ρ, Gh, T, σ, w, es.er, (PostS.expr t0 w es p).mono ?_⟩
  rintro v H1 ⟨ρ1, G1, T1, d, kv, t, t01, w1, es1, p1⟩
  exact p1 v ρ1 G1 H1 t01 .refl w1 (kV.from t0 t kv)
theorem sw_notLc {e : Expr} (h : notLc e = true) (t : Option Expr) (l : Nat) (env : PySem.Env) : swapsWith e t l env = pure false := by
  cases e <;> first | rfl | cases h
theorem sm_set (S : Snd G C R) (g : Gx X G C) (fit : Fit X F) (tk : L2N.Takes X W) (x : Str) (py : Pos) (e : Expr) (pos : Pos) (i : Nat) (hs : slotL F x = some i) (hsw : swapsWith e (some (.Name x py)) pos.line X.env = pure false) :
    PS X (.Assign [.Name x py] e pos) (SR X.K W fun σ T => (R.val F e σ T).then_ σ fun d T1 => put G i x d.1 d.2 σ T1) := by
  obtain ⟨h1, h2, h3⟩ := slotL_ok fit hs
  refine (ps_set fit.nd h1 h2 (S.val X W F e g fit tk) hsw h3).imp fun E σv H ⟨ρ0, G0, H0, ρ, Gh, T, σ, t0, w, es, p⟩ => ?_
  refine ⟨ρ, Gh, T, σ, w, es.er, (PostS.expr t0 w es p).mono ?_⟩
  rintro v H1 ⟨ρ1, G1, T1, d, kv, t, t01, w1, es1, p1⟩
  exact put_ok es t t0 w w1 kv p1
theorem sm_setLc (S : Snd G C R) (SL : SndL G C R) (g : Gx X G C) (fit : Fit X F) (tk : L2N.Takes X W) (x : Str) (py : Pos) (elt : Expr) (gs : List Comprehension) (scope : Scope) (p pos : Pos) (i : Nat) (hs : slotL F x = some i) :
    PS X (.Assign [.Name x py] (.ListComp elt gs scope p) pos) (SR X.K W fun σ T => (R.val F (.ListComp elt gs scope p) σ T).then_ σ fun d T1 => put G i x d.1 d.2 σ T1) := by
  have e : swapsWith (.ListComp elt gs scope p) (some (.Name x py)) pos.line X.env = pure (X.env.blockKind == .function && X.env.kindOf x == some .local && py.line == p.line && !(scope.names.any fun (n, k) => n == x && (k == .local || k == .cell))) := rfl
  cases hb : (X.env.blockKind == .function && X.env.kindOf x == some .local && py.line == p.line && !(scope.names.any fun (n, k) => n == x && (k == .local || k == .cell))) with
  | false =>
    rw [hb] at e
    exact sm_set S g fit tk x py _ pos i hs e
  | true =>
    rw [hb] at e
    obtain ⟨h1, h2, h3⟩ := slotL_ok fit hs
    have hl : X.env.scope.names.lookup x = some .local := by
      simp only [Bool.and_eq_true] at hb
      have q : X.env.kindOf x = some .local := by simpa using hb.1.1.2
      exact q
    refine (SL X W F elt gs scope p pos py x i g fit tk h1 hl e).imp fun E σv H ⟨ρ0, G0, H0, ρ, Gh, T, σ, t0, w, es, p⟩ => ?_
    refine ⟨ρ, Gh, T, σ, w, es.er, (PostS.expr t0 w es p).mono ?_⟩
    rintro v H1 ⟨ρ1, G1, T1, d, kv, t, t01, w1, es1, p1⟩
    exact put_ok es t t0 w w1 kv p1

/-! ### owned lists changed by methods -/
theorem mutD_append {xs ds ys : List D} {r : D} (h : mutD "append" xs ds = some (ys, r)) : ∃ d, ds = [d] ∧ xs.length < 16777216 ∧ ys = xs ++ [d] ∧ r = .non := by
  match ds, h with
  | [d], h =>
    have h : (if decide (xs.length < 16777216) = true then some (xs ++ [d], D.non) else none) = some (ys, r) := h
    split at h
    · rename_i hl
      cases h
      exact ⟨d, rfl, of_decide_eq_true hl, rfl, rfl⟩
    · cases h
  | [], h => cases h
  | _ :: _ :: _, h => cases h
theorem mutD_extend {xs ys : List D} {d r : D} (h : mutD "extend" xs [d] = some (ys, r)) : ∃ zs, d = .lst zs ∧ fits (xs.length + zs.length) = true ∧ ys = xs ++ zs ∧ r = .non := by
  cases d
  case lst zs =>
    have h : (if fits (xs.length + zs.length) = true then some (xs ++ zs, D.non) else none) = some (ys, r) := h
    split at h
    · rename_i hl
      cases h
      exact ⟨zs, rfl, hl, rfl, rfl⟩
    · cases h
  all_goals cases h
theorem mutD_pop {xs ds ys : List D} {r : D} (h : mutD "pop" xs ds = some (ys, r)) : (ds = [] ∧ xs[xs.length - 1]? = some r ∧ ys = xs.dropLast) ∨ ∃ i k, ds = [.int i] ∧ small62 i = true ∧ ixD xs.length i = some k ∧ xs[k]? = some r ∧ ys = xs.eraseIdx k := by
  cases ds with
  | nil =>
    have h : (match xs.getLast? with
      | some d => some (xs.dropLast, d)
      | none => none) = some (ys, r) := h
    split at h
    · rename_i d hd
      cases h
      exact .inl ⟨rfl, by rw [← List.getLast?_eq_getElem?]; exact hd, rfl⟩
    · cases h
  | cons d ds =>
    cases ds with
    | cons d2 ds => cases d <;> cases h
    | nil =>
      cases d
      case int i =>
        have h : (if small62 i = true then (ixD xs.length i).bind fun k => (xs[k]?).map fun d => (xs.eraseIdx k, d) else none) = some (ys, r) := h
        split at h
        · rename_i hs
          cases e1 : ixD xs.length i with
          | none => rw [e1] at h; cases h
          | some k =>
            rw [e1] at h
            have h : (xs[k]?).map (fun d => (xs.eraseIdx k, d)) = some (ys, r) := h
            cases e2 : xs[k]? with
            | none => rw [e2] at h; cases h
            | some d =>
              rw [e2] at h
              have h : (xs.eraseIdx k, d) = (ys, r) := by simpa using h
              cases h
              exact .inr ⟨i, k, rfl, hs, e1, e2, rfl⟩
        · cases h
      all_goals cases h
theorem mutD_other {m : Str} {xs ds : List D} (h1 : m ≠ ("append" : Str)) (h2 : m ≠ ("extend" : Str)) (h3 : m ≠ ("pop" : Str)) : mutD m xs ds = none := by
  unfold mutD
  rw [if_neg h1, if_neg h2, if_neg h3]
theorem mt_pops {X : Cx} : MtR X "list.pop" (fun x xs H Q => rPop x xs H Q ∨ rPopAt x xs H Q) := fun pins s σ H x xs v us Q I rx rv h => by
  rcases h with h | h
  · exact mt_pop pins s σ H x xs v us Q I rx rv h
  · exact mt_popAt pins s σ H x xs v us Q I rx rv h
def MR (K : PySem.W.Frag) (W : WX) (mm : (D → SM) → SM) : TE := fun σv H Q => ∃ ρ0 G0 H0 E ρ G T σ k, Tr ρ0 G0 H0 ρ G H ∧ Wd K ρ G H T ∧ EnvS K H0 ρ G H σ σv ∧ PostS K W ρ0 G0 H0 E ρ G H (mm k σ T) ∧
  ∀ v ρ' G' H' σ' T' r, Tr ρ0 G0 H0 ρ' G' H' → TrW ρ G H ρ' G' H' → Wd K ρ' G' H' T' → EnvS K H0 ρ' G' H' σ' σv → Rp K ρ' G' v r → PostS K W ρ0 G0 H0 E ρ' G' H' (k r σ' T') → Q v H'
theorem mutV_close {K : PySem.W.Frag} {ρ0 ρ ρ1 : List Addr} {G0 Gh G1 H0 H H1 : Hp} {σv : L2.St} {σ : Env} {T1 : Sto} {E : Ends} {y m : Str} {ds : List D} {k : D → SM} {i : Nat} {Q : VK}
    (t0 : Tr ρ0 G0 H0 ρ1 G1 H1) (u : TrW ρ Gh H ρ1 G1 H1) (w : Wd K ρ1 G1 H1 T1) (es : EnvS K H0 ρ1 G1 H1 σ σv) (hs : slot F y = some i) (p : PostS K W ρ0 G0 H0 E ρ1 G1 H1 (mutV F y m ds k σ T1))
    (fin : ∀ v ρ' G' H' σ' T' r, Tr ρ0 G0 H0 ρ' G' H' → TrW ρ Gh H ρ' G' H' → Wd K ρ' G' H' T' → EnvS K H0 ρ' G' H' σ' σv → Rp K ρ' G' v r → PostS K W ρ0 G0 H0 E ρ' G' H' (k r σ' T') → Q v H') :
    ∃ a vs xs ys r, σv[i]? = some (some (V.ref a)) ∧ H1 a = some (.lst vs) ∧ Rps K ρ1 G1 vs xs ∧ mutD m xs ds = some (ys, r) ∧ ∀ ws v, Rps K ρ1 G1 ws ys → Rp K ρ1 G1 v r → Q v (upd H1 a (.lst ws)) := by
  unfold mutV at p
  rw [hs] at p
  simp only at p
  split at p
  · rename_i xs e
    obtain ⟨a, vs, ds', ev, ed, ha, r, n, gn, h0⟩ := es.slot e
    cases ed
    split at p
    · rename_i ys r' em
      refine ⟨a, vs, xs, ys, r', ev, ha, r, em, fun ws v rw rv => ?_⟩
      refine fin v ρ1 G1 _ _ T1 r' (t0.own h0 _) (u.trans (TrW.own ha)) (w.own n gn _) (es.mut e ev rw) rv (PostS.shift p (TrW.own ha))
    · exact (show False from p).elim
  · exact (show False from p).elim
theorem isOw_ok {K : PySem.W.Frag} {ρ : List Addr} {Gh H H0 : Hp} {σ : Env} {σv : L2.St} {y : Str} (es : EnvS K H0 ρ Gh H σ σv) (h : isOw F y σ = true) : ∃ i a vs, slot F y = some i ∧ σv[i]? = some (some (V.ref a)) ∧ H a = some (.lst vs) := by
  unfold isOw at h
  split at h
  · cases h
  · rename_i i hs
    split at h
    · rename_i xs e
      obtain ⟨a, vs, ds', ev, ed, ha, _⟩ := es.slot e
      exact ⟨i, a, vs, hs, ev, ha⟩
    · cases h
theorem star_all {es : List Expr} (h : es.all notStar = true) (env : PySem.Env) (pos : Pos) : (backTo pos (starEach es env)).all (fun x => !x.1) = true := by
  have q := star_back h env pos
  rw [List.any_eq_false] at q
  rw [List.all_eq_true]
  intro x hx
  have := q x hx
  simpa using this
theorem pa_one {e : Expr} {α : Type} {k : Kd V α} {m : EM α} {W : WX} (h : PE X e (RG X.K W k m)) (hn : notStar e = true) : PA X [e] (fun σv H Q => RG X.K W k m σv H (fun v H1 => Q [v] H1)) := (pa_cons h pa_nil (star_of hn [] X.env)).imp fun σv H Q hq => hq
theorem pe_mutMR (S : Snd G C R) (g : Gx X G C) (fit : Fit X F) (tk : L2N.Takes X W) (y m : Str) (p1 ap cp : Pos) (args : List Expr) (ok : mutOk y m args ap cp = true) : PE X (.Call (.Attribute (.Name y p1) m ap) args [] cp) (MR X.K W (mutM R F y m args)) := by
  unfold mutOk at ok
  simp only [Bool.and_eq_true, Bool.not_eq_true', decide_eq_true_eq] at ok
  obtain ⟨⟨⟨⟨o1, o2⟩, o3⟩, o4⟩, o5⟩ := ok
  obtain ⟨d1, d2, _⟩ := isDbg_ok o2
  cases hs : slot F y with
  | none =>
    refine ⟨fun pins s σv H Q I ⟨ρ0, G0, H0, E, ρ, Gh, T, σ, k, t0, w, es, p, fin⟩ => ?_⟩
    unfold mutM isOw at p
    rw [hs] at p
    exact (show False from p).elim
  | some i =>
    obtain ⟨hN, hv⟩ := slot_ok fit hs
    have var : PE X (.Name y p1) (tVar i) := pe_var hN hv d1 d2
    cases args with
    | nil =>
      -- pop()
      by_cases em : m = ("pop" : Str)
      · subst em
        refine (pe_bm0 PySem.F.plainAttrs_list PySem.F.slot_list_pop PySem.F.type_list_pop mt_pop var rfl o3).imp fun σv H Q ⟨ρ0, G0, H0, E, ρ, Gh, T, σ, k, t0, w, es, p, fin⟩ => ?_
        unfold mutM at p
        split at p
        · rename_i how
          obtain ⟨i', a, vs, hs', ev, ha⟩ := isOw_ok es how
          rw [hs] at hs'
          cases hs'
          refine ⟨_, ev, .inl ⟨rfl, vs, SqL.of ha⟩, ?_⟩
          have p' : PostS X.K W ρ0 G0 H0 E ρ Gh H (mutV F y "pop" [] k σ T) := p
          obtain ⟨a', vs', xs, ys, r, ev', ha', rr, em, cl⟩ := mutV_close t0 .refl w es hs p' fin
          rw [ev] at ev'
          cases ev'
          rw [ha] at ha'
          cases ha'
          rcases mutD_pop em with ⟨_, hd', rfl⟩ | ⟨_, _, hd, _⟩
          · obtain ⟨v, e1, r1⟩ := rr.get hd'
            exact ⟨a, vs, v, rfl, rfl, ha, by rw [rr.length]; exact e1, cl _ _ rr.dropLast r1⟩
          · cases hd
        · exact (show False from p).elim
      · refine ⟨fun pins s σv H Q I ⟨ρ0, G0, H0, E, ρ, Gh, T, σ, k, t0, w, es, p, fin⟩ => ?_⟩
        exfalso
        unfold mutM at p
        split at p
        · by_cases ex : m = ("extend" : Str)
          · rw [if_pos ex] at p
            exact p
          · rw [if_neg ex] at p
            have p' : PostS X.K W ρ0 G0 H0 E ρ Gh H (mutV F y m [] k σ T) := p
            obtain ⟨_, _, xs, _, _, _, _, _, em', _⟩ := mutV_close t0 .refl w es hs p' fin
            by_cases ea : m = ("append" : Str)
            · subst ea
              obtain ⟨_, z, _⟩ := mutD_append em'
              cases z
            · rw [mutD_other ea ex em] at em'
              cases em'
        · exact p
    | cons e0 es0 =>
      have o4' := o4
      rw [List.all_cons, Bool.and_eq_true] at o4'
      have few : ((backTo cp (starEach (e0 :: es0) X.env)).all (fun x => !x.1) && (backToKw cp (keywordEach [] X.env)).all (fun x => x.1.isSome)
        && decide ((e0 :: es0).length + ([] : List Keyword).length + (if ([] : List Keyword).isEmpty then 0 else 1) < 30)) = true := by
        rw [star_all o4]
        simp only [Bool.true_and, Bool.and_eq_true, decide_eq_true_eq]
        exact ⟨rfl, o5⟩
      by_cases e1 : m = ("extend" : Str)
      · subst e1
        cases es0 with
        | cons e2 es2 =>
          refine ⟨fun pins s σv H Q I ⟨ρ0, G0, H0, E, ρ, Gh, T, σ, k, t0, w, es, p, fin⟩ => ?_⟩
          exfalso
          unfold mutM at p
          split at p
          · exact p
          · exact p
        | nil =>
          refine (pe_bm PySem.F.plainAttrs_list PySem.F.slot_list_extend PySem.F.type_list_extend mt_extend var (pa_one (pe_pE S g fit tk e0) o4'.1) rfl few o3 (star_of o4'.1 [] X.env) rfl).imp fun σv H Q ⟨ρ0, G0, H0, E, ρ, Gh, T, σ, k, t0, w, es, p, fin⟩ => ?_
          unfold mutM at p
          split at p
          · rename_i how
            obtain ⟨i', a, vs, hs', ev, ha⟩ := isOw_ok es how
            rw [hs] at hs'
            cases hs'
            have p : PostS X.K W ρ0 G0 H0 E ρ Gh H ((pE R F e0 σ T).then_ σ fun d T1 => mutV F y "extend" [d] k σ T1) := p
            refine ⟨_, ev, .inl ⟨rfl, vs, SqL.of ha⟩, ρ, Gh, T, σ, w, es.er, (PostS.expr t0 w es p).mono ?_⟩
            rintro v H1 ⟨ρ1, G1, T1, d, kv, t, t01, w1, es1, p1⟩
            obtain ⟨a', vs', xs, ys, r, ev', ha', rr, em, cl⟩ := mutV_close t01 t.w w1 es1 hs p1 fin
            rw [ev] at ev'
            cases ev'
            obtain ⟨zs, rfl, hf, rfl, rfl⟩ := mutD_extend em
            obtain ⟨b, zv, rfl, hb, rz⟩ := PRel.l w1.sub kv
            exact ⟨a, b, vs', zv, rfl, rfl, ha', hb, by rw [rr.length, rz.length]; exact fits_iff.mp hf, cl _ _ (rr.app rz) .non⟩
          · exact (show False from p).elim
      · have arg := pa_aE S g fit tk (e0 :: es0)
        have pe_ : ∀ {T : String} {id : String} {r : V → List V → Hp → VK → Prop} (pa : PlainAttrs T) (sl : Slot T m id) (hty : typeOf (.builtin id) = pure (.type "method_descriptor")) (hm : MtR X id r), PE X (.Call (.Attribute (.Name y p1) m ap) (e0 :: es0) [] cp) (tBM X.K T r (tVar i) (RG X.K W (kA X.K) (aE R F (e0 :: es0)))) := fun pa sl hty hm =>
          pe_bm pa sl hty hm var arg rfl few o3 (star_of o4'.1 es0 X.env) (star_back o4'.2 X.env cp)
        have go : ∀ {r0 : V → List V → Hp → VK → Prop} {σv : L2.St} {H : Hp} {Q : VK},
            (∀ {ρ0 : List Addr} {G0 H0 : Hp} {E : Ends} {ρ : List Addr} {Gh : Hp} {k : D → SM} {a : Addr} {ρ1 : List Addr} {G1 : Hp} {T1 : Sto} {ds : List D} {vs us : List V} {xs ys : List D} {r : D} {H1 : Hp}, Wd X.K ρ1 G1 H1 T1 → H1 a = some (.lst us) → Rps X.K ρ1 G1 us xs → Rps X.K ρ1 G1 vs ds → mutD m xs ds = some (ys, r) →
              (∀ ws v, Rps X.K ρ1 G1 ws ys → Rp X.K ρ1 G1 v r → Q v (upd H1 a (.lst ws))) → r0 (.ref a) vs H1 Q) →
            MR X.K W (mutM R F y m (e0 :: es0)) σv H Q → tBM X.K "list" r0 (tVar i) (RG X.K W (kA X.K) (aE R F (e0 :: es0))) σv H Q := fun {r0 σv H Q} hr ⟨ρ0, G0, H0, E, ρ, Gh, T, σ, k, t0, w, es, p, fin⟩ => by
          unfold mutM at p
          split at p
          · rename_i how
            obtain ⟨i', a, vs, hs', ev, ha⟩ := isOw_ok es how
            rw [hs] at hs'
            cases hs'
            try rw [if_neg e1] at p
            refine ⟨_, ev, .inl ⟨rfl, vs, SqL.of ha⟩, ρ, Gh, T, σ, w, es.er, (PostS.expr t0 w es p).mono ?_⟩
            rintro us H1 ⟨ρ1, G1, T1, ds, kv, t, t01, w1, es1, p1⟩
            obtain ⟨a', vs', xs, ys, r, ev', ha', rr, em, cl⟩ := mutV_close t01 t.w w1 es1 hs p1 fin
            rw [ev] at ev'
            cases ev'
            exact hr (ρ0 := ρ0) (G0 := G0) (H0 := H0) (E := E) (ρ := ρ) (Gh := Gh) (k := k) w1 ha' rr kv em cl
          · exact (show False from p).elim
        by_cases e2 : m = ("append" : Str)
        · subst e2
          refine (pe_ PySem.F.plainAttrs_list PySem.F.slot_list_append PySem.F.type_list_append mt_append).imp fun σv H Q hq => go (fun {ρ0 G0 H0 E ρ Gh k a ρ1 G1 T1 ds vs us xs ys r H1} w1 ha rr kv em cl => ?_) hq
          obtain ⟨d, rfl, hlt, rfl, rfl⟩ := mutD_append em
          cases kv with
          | @cons v0 _ _ _ rv rest =>
            cases rest
            exact ⟨a, us, v0, rfl, rfl, ha, by rw [rr.length]; exact hlt, cl _ _ (rr.app (.one rv)) .non⟩
        · by_cases e3 : m = ("pop" : Str)
          · subst e3
            refine (pe_ PySem.F.plainAttrs_list PySem.F.slot_list_pop PySem.F.type_list_pop mt_pops).imp fun σv H Q hq => go (fun {ρ0 G0 H0 E ρ Gh k a ρ1 G1 T1 ds vs us xs ys r H1} w1 ha rr kv em cl => ?_) hq
            rcases mutD_pop em with ⟨rfl, hd', rfl⟩ | ⟨j, q, rfl, hsm, e5, e6, rfl⟩
            · cases kv
              obtain ⟨v, e1, r1⟩ := rr.get hd'
              exact .inl ⟨a, us, v, rfl, rfl, ha, by rw [rr.length]; exact e1, cl _ _ rr.dropLast r1⟩
            · cases kv with
              | @cons v0 _ _ _ rv rest =>
                cases rest
                cases Rp.i rv
                obtain ⟨u0, e7, r7⟩ := rr.get e6
                unfold small62 at hsm
                simp only [Bool.and_eq_true, decide_eq_true_eq] at hsm
                refine .inr ⟨a, us, j, q, u0, rfl, rfl, ha, by omega, by omega, ?_, e7, cl _ _ (rr.erase q) r7⟩
                rw [rr.length]
                exact (ixN_seq (show ixN xs.length j = some q from e5)).1
          · refine ⟨fun pins s σv H Q I hq => ?_⟩
            exfalso
            unfold isMut at o1
            simp [e1, e2, e3] at o1
end
end Mi


set_option Elab.async false
set_option linter.all false
set_option maxRecDepth 100000
/-! MiN: the statements' soundness, second part. -/
namespace Mi
open PySem PySem.Spec PyProof.Rows L2
section
variable {X : Cx} {W : WX} {F : Fi} {G : Gi} {EI : Ei} {C : CallT} {U : ExtT} {R : Dn}
theorem sw_call {f : Expr} {a : List Expr} {k : List Keyword} {p : Pos} (t : Option Expr) (l : Nat) (env : PySem.Env) : swapsWith (.Call f a k p) t l env = pure false := rfl
theorem sole_notLc {e : Expr} (h : notLc e = true) (t : Expr) (l : Nat) (env : PySem.Env) : swapsWithSole [t] e l env = pure false := sw_notLc h (some t) l env
/-- y.m(..) as a statement -/
theorem sm_mut (S : Snd G C R) (g : Gx X G C) (fit : Fit X F) (tk : L2N.Takes X W) (y m : Str) (p1 ap cp pos : Pos) (args : List Expr) (ok : mutOk y m args ap cp = true) : PS X (.Expr (.Call (.Attribute (.Name y p1) m ap) args [] cp) pos) (SR X.K W (mutM R F y m args fun _ σ T => .nx σ T)) :=
  (ps_expr (pe_mutMR S g fit tk y m p1 ap cp args ok) rfl).imp fun E σv H ⟨ρ0, G0, H0, ρ, Gh, T, σ, t0, w, es, p⟩ =>
    ⟨ρ0, G0, H0, E, ρ, Gh, T, σ, _, t0, w, es, p, fun v ρ' G' H' σ' T' r t0' u w' es' rv p' => p' ρ' G' H' σv t0' .refl w' es'⟩
/-- x = y.m(..) -/
theorem sm_setMut (S : Snd G C R) (g : Gx X G C) (fit : Fit X F) (tk : L2N.Takes X W) (x y m : Str) (py p1 ap cp pos : Pos) (args : List Expr) (ok : mutOk y m args ap cp = true) (i : Nat) (hs : slotL F x = some i) :
    PS X (.Assign [.Name x py] (.Call (.Attribute (.Name y p1) m ap) args [] cp) pos) (SR X.K W (mutM R F y m args fun r σ T => put G i x r false σ T)) := by
  obtain ⟨h1, h2, h3⟩ := slotL_ok fit hs
  exact (ps_set fit.nd h1 h2 (pe_mutMR S g fit tk y m p1 ap cp args ok) rfl h3).imp fun E σv H ⟨ρ0, G0, H0, ρ, Gh, T, σ, t0, w, es, p⟩ =>
    ⟨ρ0, G0, H0, E, ρ, Gh, T, σ, _, t0, w, es, p, fun v ρ' G' H' σ' T' r t0' u w' es' rv p' => put_ok es' .refl t0' w' w' (fl := false) rv p'⟩
/-- a target's stores in a def's frame -/
theorem bindNs_ow : ∀ {es : List Expr} {ds : List D} {σ σ1 : Env} {j : Nat} {x : D}, bindNs F es ds σ = some σ1 → σ1[j]? = some (.ow x) → σ[j]? = some (.ow x) ∧ j ∉ slotsNs F es
  | [], [], _, _, _, _, h, e => by cases h; exact ⟨e, by simp [slotsNs]⟩
  | [], _ :: _, _, _, _, _, h, _ => by cases h
  | e0 :: es, ds, σ, σ1, j, x, h, e => by
    cases e0 <;> first | (cases h; done) | skip
    cases ds with
    | nil => cases h
    | cons d ds =>
      rename_i nm pos
      have h' : ((slotL F nm).bind fun i => bindNs F es ds (σ.set i (.fz d))) = some σ1 := h
      cases e1 : slotL F nm with
      | none => rw [e1] at h'; cases h'
      | some i =>
        rw [e1] at h'
        obtain ⟨a, b⟩ := bindNs_ow (es := es) (ds := ds) h' e
        have sl : slotsNs F (.Name nm pos :: es) = i :: slotsNs F es := by
          show (match slotL F nm with | some i => [i] | none => []) ++ slotsNs F es = _
          rw [e1]
          rfl
        rw [sl]
        rcases get_set_cases a with ⟨_, z⟩ | ⟨n, a⟩
        · cases z
        · exact ⟨a, by simp only [List.mem_cons, not_or]; exact ⟨fun z => n z.symm, b⟩⟩
theorem bindT_ow {tg : Expr} {d : D} {σ σ1 : Env} {j : Nat} {x : D} (h : bindT F tg d σ = some σ1) (e : σ1[j]? = some (.ow x)) : σ[j]? = some (.ow x) ∧ j ∉ slotsT F tg := by
  cases tg
  case Name nm pos =>
    have h' : (slotL F nm).map (fun i => σ.set i (.fz d)) = some σ1 := h
    cases e1 : slotL F nm with
    | none => rw [e1] at h'; cases h'
    | some i =>
      rw [e1] at h'
      have h2 : σ.set i (.fz d) = σ1 := by simpa using h'
      subst h2
      have sl : slotsT F (.Name nm pos) = [i] := by
        show (match slotL F nm with | some i => [i] | none => []) = _
        rw [e1]
      rw [sl]
      rcases get_set_cases e with ⟨_, z⟩ | ⟨n, a⟩
      · cases z
      · exact ⟨a, by simp only [List.mem_singleton]; exact fun z => n z.symm⟩
  case Tuple es k pos =>
    cases d <;> first | (cases h; done) | skip
    case tup ds => exact bindNs_ow (es := es) (ds := ds) h e
    case lst ds => exact bindNs_ow (es := es) (ds := ds) h e
  all_goals (cases d <;> cases h)
/-- the reading of a target from the frame -/
theorem gR_of {K : PySem.W.Frag} {W : WX} {ρ0 ρ : List Addr} {G0 Gh H0 H : Hp} {σv : L2.St} {σ : Env} {T : Sto} {E : Ends} {tg : Expr} {v : V} {d : D} (t0 : Tr ρ0 G0 H0 ρ Gh H) (w : Wd K ρ Gh H T) (es : EnvS K H0 ρ Gh H σ σv) (r : Rp K ρ Gh v d)
    {Q : L2.St → Hp → Prop} (h : ∃ σ1, bindT F tg d σ = some σ1 ∧ ∀ σv1, EnvS K H0 ρ Gh H σ1 σv1 → Q σv1 H) : gR K (slotsT F tg) (bindT F tg) v σv H Q := by
  obtain ⟨σ1, e, q⟩ := h
  refine ⟨ρ, Gh, T, σ, d, σ1, w, es.er, r, e, fun σv1 er1 sm => q σv1 ⟨er1, fun j x a e1 e2 => ?_⟩⟩
  obtain ⟨h1, h2⟩ := bindT_ow e e1
  rw [sm.2 j h2] at e2
  exact es.ow j x a h1 e2
theorem bindM_of {K : PySem.W.Frag} {W : WX} {ρ0 ρ : List Addr} {G0 Gh H0 H : Hp} {σ : Env} {T : Sto} {E : Ends} {tg : Expr} {d : D} (t0 : Tr ρ0 G0 H0 ρ Gh H) (w : Wd K ρ Gh H T) (p : PostS K W ρ0 G0 H0 E ρ Gh H (bindM F tg d σ T)) :
    ∃ σ1, bindT F tg d σ = some σ1 ∧ ∀ σv1, EnvS K H0 ρ Gh H σ1 σv1 → E.nx σv1 H := by
  unfold bindM at p
  split at p
  · rename_i σ1 e
    exact ⟨σ1, e, fun σv1 es1 => p ρ Gh H σv1 t0 .refl w es1⟩
  · exact (show False from p).elim
theorem sm_tup (S : Snd G C R) (g : Gx X G C) (fit : Fit X F) (tk : L2N.Takes X W) (ts : List Expr) (k : Nat) (p0 : Pos) (e : Expr) (pos : Pos) (h1 : notLc e = true) (h2 : notTup e = true) :
    PS X (.Assign [.Tuple ts k p0] e pos) (SR X.K W fun σ T => (vE R F e σ T).then_ σ fun d T1 => bindM F (.Tuple ts k p0) d σ T1) := by
  refine (ps_asg (pe_vE S g fit tk e) (pg_bind fit (.Tuple ts k p0)) (sole_notLc h1 _ _ _) (by cases e <;> first | rfl | cases h2) rfl).imp fun E σv H ⟨ρ0, G0, H0, ρ, Gh, T, σ, t0, w, es, p⟩ => ?_
  refine ⟨ρ, Gh, T, σ, w, es.er, (PostS.expr t0 w es p).mono ?_⟩
  rintro v H1 ⟨ρ1, G1, T1, d, kv, t, t01, w1, es1, p1⟩
  exact gR_of (W := W) (E := E) t01 w1 es1 kv (bindM_of t01 w1 p1)
theorem sm_tupMut (S : Snd G C R) (g : Gx X G C) (fit : Fit X F) (tk : L2N.Takes X W) (ts : List Expr) (k : Nat) (p0 : Pos) (y m : Str) (p1 ap cp pos : Pos) (args : List Expr) (ok : mutOk y m args ap cp = true) :
    PS X (.Assign [.Tuple ts k p0] (.Call (.Attribute (.Name y p1) m ap) args [] cp) pos) (SR X.K W (mutM R F y m args fun r σ T => bindM F (.Tuple ts k p0) r σ T)) :=
  (ps_asg (pe_mutMR S g fit tk y m p1 ap cp args ok) (pg_bind fit (.Tuple ts k p0)) rfl rfl rfl).imp fun E σv H ⟨ρ0, G0, H0, ρ, Gh, T, σ, t0, w, es, p⟩ =>
    ⟨ρ0, G0, H0, E, ρ, Gh, T, σ, _, t0, w, es, p, fun v ρ' G' H' σ' T' r t0' u w' es' rv p' => gR_of (W := W) (E := E) t0' w' es' rv (bindM_of t0' w' p')⟩
/-- y.append(z.pop(..)) -/
theorem sm_mut2 (S : Snd G C R) (g : Gx X G C) (fit : Fit X F) (tk : L2N.Takes X W) (y z m m2 : Str) (p1 p2 ap ap2 cp cp2 pos : Pos) (args : List Expr) (ok2 : mutOk z m2 args ap2 cp2 = true) (ok1 : mutOk y m [] ap cp = true) (hm : m = ("append" : Str)) :
    PS X (.Expr (.Call (.Attribute (.Name y p1) m ap) [.Call (.Attribute (.Name z p2) m2 ap2) args [] cp2] [] cp) pos) (SR X.K W (fun σ T => if isOw F y σ then mutM R F z m2 args (fun r σ1 T1 => mutV F y m [r] (fun _ σ T => .nx σ T) σ1 T1) σ T else .bad)) := by
  subst hm
  unfold mutOk at ok1
  simp only [Bool.and_eq_true, Bool.not_eq_true', decide_eq_true_eq] at ok1
  obtain ⟨⟨⟨⟨o1, o2⟩, o3⟩, o4⟩, o5⟩ := ok1
  obtain ⟨d1, d2, _⟩ := isDbg_ok o2
  cases hs : slot F y with
  | none => exact PS.bad fun σ T => by unfold isOw; rw [hs]; rfl
  | some i =>
    obtain ⟨hN, hv⟩ := slot_ok fit hs
    have inner := pe_mutMR S g fit tk z m2 p2 ap2 cp2 args ok2
    have arg : PA X [.Call (.Attribute (.Name z p2) m2 ap2) args [] cp2] (fun σv H Q => MR X.K W (mutM R F z m2 args) σv H (fun v H1 => Q [v] H1)) := (pa_cons inner pa_nil rfl).imp fun σv H Q hq => hq
    refine (ps_expr (pe_bm PySem.F.plainAttrs_list PySem.F.slot_list_append PySem.F.type_list_append mt_append (pe_var hN hv d1 d2) arg rfl rfl o3 rfl rfl) rfl).imp fun E σv H ⟨ρ0, G0, H0, ρ, Gh, T, σ, t0, w, es, p⟩ => ?_
    simp only at p
    split at p
    · rename_i how
      obtain ⟨i', a, vs, hs', ev, ha⟩ := isOw_ok es how
      rw [hs] at hs'
      cases hs'
      refine ⟨_, ev, .inl ⟨rfl, vs, SqL.of ha⟩, ρ0, G0, H0, E, ρ, Gh, T, σ, _, t0, w, es, p, fun v ρ' G' H' σ' T' r t0' u w' es' rv p' => ?_⟩
      obtain ⟨a', vs', xs, ys, r', ev', ha', rr, em, cl⟩ := mutV_close (Q := fun v' H2 => E.nx σv H2) t0' u w' es' hs p' (fun v2 ρ2 G2 H2 σ2 T2 r2 t2 u2 w2 es2 rv2 p2 => p2 ρ2 G2 H2 σv t2 .refl w2 es2)
      rw [ev] at ev'
      cases ev'
      obtain ⟨d, hd, hlt, rfl, rfl⟩ := mutD_append em
      cases hd
      exact ⟨a, vs', v, rfl, rfl, ha', by rw [rr.length]; exact hlt, cl _ .non (rr.app (.one rv)) .non⟩
    · exact (show False from p).elim
/-- x[i] = d -/
theorem sm_sub (S : Snd G C R) (g : Gx X G C) (fit : Fit X F) (tk : L2N.Takes X W) (x : Str) (px : Pos) (ix e : Expr) (ps pos : Pos) (h1 : notLc e = true) (h2 : notTup e = true) (h3 : notSlice ix = true) (hd : isDbg x = false) (k : Nat) (hs : slot F x = some k) :
    PS X (.Assign [.Subscript (.Name x px) ix ps] e pos) (SR X.K W fun σ T => if isHere k σ then (vE R F e σ T).then_ σ fun d T1 => (vE R F ix σ T1).then_ σ fun j T2 => setM k j d σ T2 else .bad) := by
  obtain ⟨hN, hv⟩ := slot_ok fit hs
  obtain ⟨d1, d2, _⟩ := isDbg_ok hd
  refine (ps_asg (pe_vE S g fit tk e) (pg_sub (pe_var hN hv d1 d2) (pe_vE S g fit tk ix) set_list (fun v => by cases ix <;> first | rfl | cases h3)) (sole_notLc h1 _ _ _) (by cases e <;> first | rfl | cases h2) rfl).imp fun E σv H ⟨ρ0, G0, H0, ρ, Gh, T, σ, t0, w, es, p⟩ => ?_
  simp only at p
  split at p
  · rename_i here
    refine ⟨ρ, Gh, T, σ, w, es.er, (PostS.expr t0 w es p).mono ?_⟩
    rintro v H1 ⟨ρ1, G1, T1, d, kv, t, t01, w1, es1, p1⟩
    obtain ⟨u, hu⟩ : ∃ u, σv[k]? = some (some u) := by
      unfold isHere at here
      split at here
      · rename_i d e
        obtain ⟨a, vs, ds, ev, _⟩ := es.slot e
        exact ⟨_, ev⟩
      · rename_i d e
        obtain ⟨u, hu, _⟩ := es.er.fz e
        exact ⟨u, hu⟩
      · cases here
    refine ⟨u, hu, ρ1, G1, T1, σ, w1, es1.er, (PostS.expr t01 w1 es1 p1).mono ?_⟩
    rintro iv H2 ⟨ρ2, G2, T2, j, kj, t2, t02, w2, es2, p2⟩
    have kd : Rp X.K ρ2 G2 v d := Rp.tr t2 kv
    replace kj : Rp X.K ρ2 G2 iv j := kj
    unfold setM at p2
    split at p2
    · rename_i xs es_
      obtain ⟨a, vs, ds, ev, ed, ha, r, n, gn, h0⟩ := es2.slot es_
      cases ed
      rw [hu] at ev
      cases ev
      split at p2
      · rename_i i
        cases kj.i
        split at p2
        · rename_i q hq
          refine ⟨a, vs, i, q, rfl, rfl, ha, by rw [r.length]; exact hq, ?_⟩
          exact p2 ρ2 G2 _ σv (t02.own h0 _) (TrW.own ha) (w2.own n gn _) (es2.mut es_ hu (Rps.set kd q r))
        · exact (show False from p2).elim
      · exact (show False from p2).elim
    · rename_i n es_
      obtain ⟨u', hu', ru⟩ := es2.er.fz es_
      rw [hu] at hu'
      cases hu'
      cases ru with
      | @obj a _ hr =>
        split at p2
        · rename_i xs i hT
          cases kj.i
          obtain ⟨b, hb, vs, ha, r⟩ := w2.sto n _ hT
          rw [hr] at hb
          cases hb
          split at p2
          · rename_i q hq
            refine ⟨a, vs, i, q, rfl, rfl, ha, by rw [r.length]; exact hq, ?_⟩
            exact p2 ρ2 G2 _ σv (t02.sset (List.mem_of_getElem? hr) ha _) (TrW.own ha) (w2.sset hr (Rps.set kd q r)) (es2.sset (List.mem_of_getElem? hr) _)
          · exact (show False from p2).elim
        · exact (show False from p2).elim
    · exact (show False from p2).elim
  · exact (show False from p).elim
/-- x op= e -/
def ipR (X : Cx) (op : Operator) : TIp := fun x y H Q => ∃ ρ G T a b d, Wd X.K ρ G H T ∧ Rp X.K ρ G x a ∧ Rp X.K ρ G y b ∧ augD op a b = some d ∧ ∀ v, Rp X.K ρ G v d → Q v H
theorem iopAug (op : Operator) : PIp X op (ipR X op) := by
  intro pins s σ H x y v u Q I rx ry h
  obtain ⟨ρ, G, T, a, b, d, w, pa, pb, e, q⟩ := h
  unfold augD at e
  split at e
  · cases e
    cases pa.i; cases pb.i
    exact iop_add pins s σ H _ _ v u Q I rx ry ⟨_, _, rfl, rfl, q _ (.int _)⟩
  · split at e
    · rename_i hf
      cases e
      cases pa.s; cases pb.s
      exact iop_add_str pins s σ H _ _ v u Q I rx ry ⟨_, _, rfl, rfl, fits_iff.mp hf, q _ (.str _)⟩
    · cases e
  · cases e
    cases pa.i; cases pb.i
    exact iop_sub pins s σ H _ _ v u Q I rx ry ⟨_, _, rfl, rfl, q _ (.int _)⟩
  · split at e
    · rename_i hf
      cases e
      cases pa.i; cases pb.i
      simp only [Bool.and_eq_true, decide_eq_true_eq] at hf
      exact iop_mul pins s σ H _ _ v u Q I rx ry ⟨_, _, rfl, rfl, .inr ⟨hf.1, hf.2⟩, q _ (.int _)⟩
    · cases e
  · cases e
theorem sm_aug (S : Snd G C R) (g : Gx X G C) (fit : Fit X F) (tk : L2N.Takes X W) (x : Str) (px : Pos) (op : Operator) (e : Expr) (pos : Pos) (hd : isDbg x = false) (i : Nat) (hs : slotL F x = some i) :
    PS X (.AugAssign (.Name x px) op e pos) (SR X.K W fun σ T => (match σ[i]? with
      | some (.fz d) => (vE R F e σ T).then_ σ fun y T1 => (match augD op d y with
        | some z => .nx (σ.set i (.fz z)) T1
        | none => .bad)
      | _ => .bad)) := by
  obtain ⟨h1, h2, h3⟩ := slotL_ok fit hs
  refine (ps_aug fit.nd h1 h2 (pe_vE S g fit tk e) (iopAug op) h3).imp fun E σv H ⟨ρ0, G0, H0, ρ, Gh, T, σ, t0, w, es, p⟩ => ?_
  simp only at p
  split at p
  · rename_i d ed
    obtain ⟨u, hu, ru⟩ := es.er.fz ed
    refine ⟨u, hu, ρ, Gh, T, σ, w, es.er, (PostS.expr t0 w es p).mono ?_⟩
    rintro v H1 ⟨ρ1, G1, T1, y, kv, t, t01, w1, es1, p1⟩
    split at p1
    · rename_i z ez
      refine ⟨ρ1, G1, T1, d, y, z, w1, Rp.tr t ru, kv, ez, fun v' rv => ?_⟩
      exact p1 ρ1 G1 H1 _ t01 .refl w1 (es1.set rv i)
    · exact (show False from p1).elim
  · exact (show False from p).elim
theorem sm_expr (S : Snd G C R) (g : Gx X G C) (fit : Fit X F) (tk : L2N.Takes X W) (e : Expr) (pos : Pos) (hs : swapsWith e none pos.line X.env = pure false) : PS X (.Expr e pos) (SR X.K W fun σ T => (R.val F e σ T).then_ σ fun _ T1 => .nx σ T1) := by
  refine (ps_expr (S.val X W F e g fit tk) hs).imp fun E σv H ⟨ρ0, G0, H0, ρ, Gh, T, σ, t0, w, es, p⟩ => ?_
  refine ⟨ρ, Gh, T, σ, w, es.er, (PostS.expr t0 w es p).mono ?_⟩
  rintro v H1 ⟨ρ1, G1, T1, d, kv, t, t01, w1, es1, p1⟩
  exact p1 ρ1 G1 H1 σv t01 .refl w1 es1
theorem sm_doc {s : Str} {j : Nat} {p1 pos : Pos} : PS X (.Expr (.Constant (.str s) j p1) pos) (SR X.K W fun σ T => .nx σ T) := ps_doc.imp fun E σv H ⟨ρ0, G0, H0, ρ, Gh, T, σ, t0, w, es, p⟩ => p ρ Gh H σv t0 .refl w es
theorem sm_raise (S : Snd G C R) (g : Gx X G C) (fit : Fit X F) (tk : L2N.Takes X W) (sx : Sx G EI C U X W) (x : Str) (p0 p1 pos : Pos) (args : List Expr) (h1 : isGl F.sc x = true) (h2 : isDbg x = false) (h3 : EI.has x args.length = true) :
    PS X (.Raise (some (.Call (.Name x p0) args [] p1)) none pos) (SR X.K W fun σ T => (aE R F args σ T).then_ σ fun ds T1 => (match EI.mkX x ds with
      | some e => .ex e σ T1
      | none => .bad)) := by
  refine (L2N.ps_raise fit.calm tk (sx.mkx R F x p0 args p1 S fit h1 h2 h3)).imp fun E σv H ⟨ρ0, G0, H0, ρ, Gh, T, σ, t0, w, es, p⟩ => ?_
  refine ⟨ρ, Gh, T, σ, w, es.er, (PostS.expr t0 w es p).mono ?_⟩
  rintro vs H1 ⟨ρ1, G1, T1, ds, kv, t, t01, w1, es1, p1⟩
  split at p1
  · rename_i e ee
    exact ⟨ρ1, G1, T1, ds, e, w1, kv, ee, fun cls d ρ' G' H' t' w' xr => p1 cls d ρ' G' H' σv (t01.trans w1 t' w') t'.w w' (es1.tr t') xr⟩
  · exact (show False from p1).elim

/-! ### what holds statements -/
theorem sm_seq {S1 : Fi → Stmt → SM} (h : ∀ st, PS X st (SR X.K W (S1 F st))) : ∀ sts : List Stmt, PSs X sts (SR X.K W (stmsBy S1 sts F))
  | [] => pss_nil.imp fun E σv H ⟨ρ0, G0, H0, ρ, Gh, T, σ, t0, w, es, p⟩ => p ρ Gh H σv t0 .refl w es
  | st :: r => (pss_cons (h st) (sm_seq h r)).imp fun E σv H ⟨ρ0, G0, H0, ρ, Gh, T, σ, t0, w, es, p⟩ => by
    refine ⟨ρ0, G0, H0, ρ, Gh, T, σ, t0, w, es, ?_⟩
    have p : PostS X.K W ρ0 G0 H0 E ρ Gh H ((S1 F st σ T).seq (stmsBy S1 r F)) := p
    cases e : S1 F st σ T with
    | nx σ1 T1 =>
      rw [e] at p
      exact fun ρ' G' H' σv' t u w' es' => ⟨ρ0, G0, H0, ρ', G', T1, σ1, t, w', es', PostS.shift p u⟩
    | bk σ1 T1 => rw [e] at p; exact p
    | ct σ1 T1 => rw [e] at p; exact p
    | rt d b T1 => rw [e] at p; exact p
    | ex x σ1 T1 => rw [e] at p; exact p
    | bad => rw [e] at p; exact p
theorem sm_if (S : Snd G C R) (g : Gx X G C) (fit : Fit X F) (tk : L2N.Takes X W) {Y : List Stmt → Fi → SM} (hY : ∀ sts, PSs X sts (SR X.K W (Y sts F))) (c : Expr) (a b : List Stmt) (pos : Pos) :
    PS X (.If c a b pos) (SR X.K W fun σ T => (R.tst F c σ T).then_ σ fun k T1 => if k then Y a F σ T1 else Y b F σ T1) := by
  refine (ps_if (S.tst X W F c g fit tk) (hY a) (hY b)).imp fun E σv H ⟨ρ0, G0, H0, ρ, Gh, T, σ, t0, w, es, p⟩ => ?_
  refine ⟨ρ, Gh, T, σ, w, es.er, (PostS.expr t0 w es p).mono ?_⟩
  rintro k H1 ⟨ρ1, G1, T1, d, kv, t, t01, w1, es1, p1⟩
  cases (show k = d from kv)
  cases k with
  | true => exact ⟨ρ0, G0, H0, ρ1, G1, T1, σ, t01, w1, es1, p1⟩
  | false => exact ⟨ρ0, G0, H0, ρ1, G1, T1, σ, t01, w1, es1, p1⟩
theorem sm_while (S : Snd G C R) (g : Gx X G C) (fit : Fit X F) (tk : L2N.Takes X W) (po : PassesOwn (model X.prog X.w) X.A X.env X.xe) {Y : List Stmt → Fi → SM} (hY : ∀ sts, PSs X sts (SR X.K W (Y sts F))) (c : Expr) (body : List Stmt) (pos : Pos) (n : Nat) :
    PS X (.While c body [] pos) (SR X.K W (whileLoop (R.tst F c) (Y body F) n)) := by
  refine (ps_while po (S.tst X W F c g fit tk) (hY body)).imp fun E σv H ⟨ρ0, G0, H0, ρ, Gh, T, σ, t0, w, es, p⟩ => ?_
  refine ⟨fun m σv' H' => ∃ ρ' G' T' σ', Tr ρ0 G0 H0 ρ' G' H' ∧ TrW ρ Gh H ρ' G' H' ∧ Wd X.K ρ' G' H' T' ∧ EnvS X.K H0 ρ' G' H' σ' σv' ∧ PostS X.K W ρ0 G0 H0 E ρ' G' H' (whileLoop (R.tst F c) (Y body F) m σ' T'),
    ⟨n, ρ, Gh, T, σ, t0, .refl, w, es, p⟩, ?_⟩
  rintro m σv' H' ⟨ρ', G', T', σ', t0', u', w', es', p'⟩
  cases m with
  | zero => exact (show False from p').elim
  | succ m =>
    have p' : PostS X.K W ρ0 G0 H0 E ρ' G' H' ((R.tst F c σ' T').then_ σ' fun b T1 => if b then (match Y body F σ' T1 with
      | .nx σ2 T2 => whileLoop (R.tst F c) (Y body F) m σ2 T2
      | .ct σ2 T2 => whileLoop (R.tst F c) (Y body F) m σ2 T2
      | .bk σ2 T2 => .nx σ2 T2
      | .rt d b T2 => .rt d b T2
      | .ex x σ2 T2 => .ex x σ2 T2
      | .bad => .bad) else .nx σ' T1) := p'
    refine ⟨ρ', G', T', σ', w', es'.er, (PostS.expr t0' w' es' p').mono ?_⟩
    rintro k H1 ⟨ρ1, G1, T1, d, kv, t, t01, w1, es1, p1⟩
    cases (show k = d from kv)
    cases k with
    | false => exact p1 ρ1 G1 H1 σv' t01 .refl w1 es1
    | true =>
      refine ⟨fun σv2 H2 => ∃ ρ2 G2 T2 σ2, Tr ρ0 G0 H0 ρ2 G2 H2 ∧ TrW ρ Gh H ρ2 G2 H2 ∧ Wd X.K ρ2 G2 H2 T2 ∧ EnvS X.K H0 ρ2 G2 H2 σ2 σv2 ∧ PostS X.K W ρ0 G0 H0 E ρ2 G2 H2 (whileLoop (R.tst F c) (Y body F) m σ2 T2),
        fun σv2 H2 z => ⟨m, Nat.lt_succ_self _, z⟩, ρ0, G0, H0, ρ1, G1, T1, σ', t01, w1, es1, ?_⟩
      simp only [if_true] at p1
      have u1 : TrW ρ Gh H ρ1 G1 H1 := u'.trans t.w
      cases eb : Y body F σ' T1 with
      | nx σ2 T2 =>
        rw [eb] at p1
        exact fun ρ2 G2 H2 σv2 a b c d => ⟨ρ2, G2, T2, σ2, a, u1.trans b, c, d, PostS.shift p1 b⟩
      | ct σ2 T2 =>
        rw [eb] at p1
        exact fun ρ2 G2 H2 σv2 a b c d => ⟨ρ2, G2, T2, σ2, a, u1.trans b, c, d, PostS.shift p1 b⟩
      | bk σ2 T2 => rw [eb] at p1; exact p1
      | rt d b T2 => rw [eb] at p1; exact p1
      | ex x σ2 T2 => rw [eb] at p1; exact p1
      | bad => rw [eb] at p1; exact p1
theorem sm_for (S : Snd G C R) (g : Gx X G C) (fit : Fit X F) (tk : L2N.Takes X W) (po : PassesOwn (model X.prog X.w) X.A X.env X.xe) {Y : List Stmt → Fi → SM} (hY : ∀ sts, PSs X sts (SR X.K W (Y sts F))) (tg iter : Expr) (body : List Stmt) (pos : Pos) (hn : notSet iter = true) :
    PS X (.For tg iter body [] pos) (SR X.K W fun σ T => (itM (vE R) R F tg iter σ T).then_ σ fun ds T1 => forLoop (bindT F tg) (Y body F) ds σ T1) := by
  refine (ps_for po fit.calm (pi_itM (wk := true) S g fit tk (how_vE S g fit tk) iter) (pg_bind fit tg) (hY body) (fun x => by cases iter <;> first | rfl | cases hn)).imp fun E σv H ⟨ρ0, G0, H0, ρ, Gh, T, σ, t0, w, es, p⟩ => ?_
  refine ⟨ρ, Gh, T, σ, w, es.er, (PostS.expr t0 w es p).mono ?_⟩
  rintro J H1 ⟨ρ1, G1, T1, items, kJ, t, t01, w1, es1, p1⟩
  refine ⟨fun i m σv' H' => i ≤ items.length ∧ m = items.length - i ∧ ∃ ρ' G' T' σ', Tr ρ0 G0 H0 ρ' G' H' ∧ TrW ρ1 G1 H1 ρ' G' H' ∧ Wd X.K ρ' G' H' T' ∧ EnvS X.K H0 ρ' G' H' σ' σv' ∧ PostS X.K W ρ0 G0 H0 E ρ' G' H' (forLoop (bindT F tg) (Y body F) (items.drop i) σ' T'),
    ⟨items.length, Nat.zero_le _, rfl, ρ1, G1, T1, σ, t01, .refl, w1, es1, p1⟩, ?_⟩
  rintro i m σv' H' ⟨hi, rfl, ρ', G', T', σ', t0', u', w', es', p'⟩
  obtain ⟨go, stop⟩ := kJ ρ' G' H' T' u' w'
  by_cases hlt : i < items.length
  · obtain ⟨d, hd⟩ : ∃ d, items[i]? = some d := ⟨_, List.getElem?_eq_getElem hlt⟩
    obtain ⟨go1, yl⟩ := go i d hd
    refine .inr ⟨go1, fun σv2 H2 => ∃ ρ2 G2 T2 σ2, Tr ρ0 G0 H0 ρ2 G2 H2 ∧ TrW ρ1 G1 H1 ρ2 G2 H2 ∧ Wd X.K ρ2 G2 H2 T2 ∧ EnvS X.K H0 ρ2 G2 H2 σ2 σv2 ∧ PostS X.K W ρ0 G0 H0 E ρ2 G2 H2 (forLoop (bindT F tg) (Y body F) (items.drop (i + 1)) σ2 T2),
      fun σv2 H2 z => ⟨items.length - (i + 1), by omega, by omega, rfl, z⟩, fun x H3 hy => ?_⟩
    obtain ⟨G3, t3, w3, r3⟩ := yl x H3 hy
    rw [List.drop_eq_getElem_cons hlt] at p'
    have hde : items[i] = d := by
      rw [List.getElem?_eq_getElem hlt] at hd
      exact Option.some.inj hd
    rw [hde] at p'
    have p' : PostS X.K W ρ0 G0 H0 E ρ' G' H' (match bindT F tg d σ' with
      | none => .bad
      | some σ1 => (match Y body F σ1 T' with
        | .nx σ2 T2 => forLoop (bindT F tg) (Y body F) (items.drop (i + 1)) σ2 T2
        | .ct σ2 T2 => forLoop (bindT F tg) (Y body F) (items.drop (i + 1)) σ2 T2
        | .bk σ2 T2 => .nx σ2 T2
        | .rt d b T2 => .rt d b T2
        | .ex x σ2 T2 => .ex x σ2 T2
        | .bad => .bad)) := p'
    have t03 := t0'.trans w' t3 w3
    have u3 : TrW ρ1 G1 H1 ρ' G3 H3 := u'.trans t3.w
    refine gR_of (W := W) (E := E) t03 w3 (es'.tr t3) r3 ?_
    cases eb : bindT F tg d σ' with
    | none => rw [eb] at p'; exact (show False from p').elim
    | some σ1 =>
      rw [eb] at p'
      refine ⟨σ1, rfl, fun σv1 es3 => ⟨ρ0, G0, H0, ρ', G3, T', σ1, t03, w3, es3, ?_⟩⟩
      have p' := PostS.shift p' t3.w
      cases ey : Y body F σ1 T' with
      | nx σ2 T2 =>
        simp only [ey] at p'
        exact fun ρ2 G2 H2 σv2 a b c d => ⟨ρ2, G2, T2, σ2, a, u3.trans b, c, d, PostS.shift p' b⟩
      | ct σ2 T2 =>
        simp only [ey] at p'
        exact fun ρ2 G2 H2 σv2 a b c d => ⟨ρ2, G2, T2, σ2, a, u3.trans b, c, d, PostS.shift p' b⟩
      | bk σ2 T2 => simp only [ey] at p'; exact p'
      | rt d b T2 => simp only [ey] at p'; exact p'
      | ex x σ2 T2 => simp only [ey] at p'; exact p'
      | bad => simp only [ey] at p'; exact p'
  · have hi' : i = items.length := by omega
    subst hi'
    refine .inl ⟨stop, ?_⟩
    rw [List.drop_length] at p'
    exact p' ρ' G' H' σv' t0' .refl w' es'
end
end Mi


set_option Elab.async false
set_option linter.all false
set_option maxRecDepth 100000
/-! MiO: all statements; defs; the module. -/
namespace Mi
open PySem PySem.Spec PyProof.Rows L2
section
variable {X : Cx} {W : WX} {F : Fi} {G : Gi} {EI : Ei} {C : CallT} {U : ExtT} {R : Dn}
theorem bad_withL {st : Stmt} {x : Str} {f : Nat → SM} (h : ∀ i, slotL F x = some i → PS X st (SR X.K W (f i))) : PS X st (SR X.K W (withL F x f)) := by
  unfold withL
  cases e : slotL F x with
  | some i => exact h i e
  | none => exact PS.bad fun _ _ => rfl
theorem bad_withS {st : Stmt} {x : Str} {f : Nat → SM} (h : ∀ i, slot F x = some i → PS X st (SR X.K W (f i))) : PS X st (SR X.K W (withS F x f)) := by
  unfold withS
  cases e : slot F x with
  | some i => exact h i e
  | none => exact PS.bad fun _ _ => rfl
theorem sm_step (S : Snd G C R) (SL : SndL G C R) (g : Gx X G C) (fit : Fit X F) (tk : L2N.Takes X W) (sx : Sx G EI C U X W) {Y : List Stmt → Fi → SM} (hY : ∀ sts, PSs X sts (SR X.K W (Y sts F))) (st : Stmt) : PS X st (SR X.K W (stepStm G EI C R Y F st)) := by
  unfold stepStm
  split
  · exact sm_pass
  · exact sm_break
  · exact sm_cont
  · exact sm_retN
  · split
    · exact PS.bad fun _ _ => rfl
    · rename_i hd
      rw [Bool.not_eq_true] at hd
      split
      · rename_i i hs
        exact sm_retVar fit hd hs
      · exact sm_ret S g fit tk _ _
  · exact sm_ret S g fit tk _ _
  · exact bad_withL fun i hs => sm_setLc S SL g fit tk _ _ _ _ _ _ _ i hs
  · split
    · rename_i ok
      exact bad_withL fun i hs => sm_setMut S g fit tk _ _ _ _ _ _ _ _ _ ok i hs
    · exact PS.bad fun _ _ => rfl
  · split
    · rename_i h1
      exact bad_withL fun i hs => sm_set S g fit tk _ _ _ _ i hs (sw_notLc h1 _ _ _)
    · exact PS.bad fun _ _ => rfl
  · split
    · rename_i ok
      exact sm_tupMut S g fit tk _ _ _ _ _ _ _ _ _ _ ok
    · exact PS.bad fun _ _ => rfl
  · split
    · rename_i hb
      simp only [Bool.and_eq_true] at hb
      exact sm_tup S g fit tk _ _ _ _ _ hb.1 hb.2
    · exact PS.bad fun _ _ => rfl
  · split
    · rename_i hb
      simp only [Bool.and_eq_true, Bool.not_eq_true'] at hb
      exact bad_withS fun k hs => sm_sub S g fit tk _ _ _ _ _ _ hb.1.1.1 hb.1.1.2 hb.1.2 hb.2 k hs
    · exact PS.bad fun _ _ => rfl
  · split
    · exact PS.bad fun _ _ => rfl
    · rename_i hd
      rw [Bool.not_eq_true] at hd
      split
      · rename_i i hs
        exact sm_aug S g fit tk _ _ _ _ _ hd i hs
      · exact PS.bad fun _ _ => rfl
  · exact sm_doc
  · split
    · rename_i hb
      simp only [Bool.and_eq_true, decide_eq_true_eq] at hb
      exact sm_mut2 S g fit tk _ _ _ _ _ _ _ _ _ _ _ _ hb.1.1 hb.1.2 hb.2
    · exact PS.bad fun _ _ => rfl
  · split
    · rename_i ok
      exact sm_mut S g fit tk _ _ _ _ _ _ _ ok
    · exact PS.bad fun _ _ => rfl
  · exact sm_expr S g fit tk _ _ rfl
  · exact sm_if S g fit tk hY _ _ _ _
  · exact sm_while S g fit tk sx.po hY _ _ _ _
  · split
    · rename_i hn
      exact sm_for S g fit tk sx.po hY _ _ _ _ hn
    · exact PS.bad fun _ _ => rfl
  · split
    · rename_i hb
      simp only [Bool.and_eq_true, Bool.not_eq_true'] at hb
      exact sm_raise S g fit tk sx _ _ _ _ _ hb.1.1 hb.1.2 hb.2
    · exact PS.bad fun _ _ => rfl
  · exact PS.bad fun _ _ => rfl
theorem sm_sn (g : Gx X G C) (fit : Fit X F) (tk : L2N.Takes X W) (sx : Sx G EI C U X W) (M : Nat) : ∀ (n : Nat) (st : Stmt), PS X st (SR X.K W (sn G EI U C M n F st))
  | 0, st => PS.bad fun _ _ => rfl
  | n + 1, st => by
    have main : PS X st (SR X.K W (match U C (dn G C M) F st with
      | some m => m
      | none => stepStm G EI C (dn G C M) (stmsBy (sn G EI U C M n)) F st)) := by
      split
      · rename_i m hm
        exact sx.ext _ F st m (snd_dn G C M) fit hm
      · exact sm_step (snd_dn G C M) (sndL_dn G C M) g fit tk sx (fun sts => sm_seq (fun st => sm_sn g fit tk sx M n st) sts) st
    refine main.imp fun E σv H ⟨ρ0, G0, H0, ρ, Gh, T, σ, t0, w, es, p⟩ => ?_
    obtain ⟨G', t0', u, w', es'⟩ := EnvS.frzE G F st.pos.line t0 w es
    exact ⟨ρ0, G0, H0, ρ, G', T, _, t0', w', es', PostS.shift p u⟩
end

/-! ### a def -/
theorem start_get {N : List Str} {d : Df} {K : PySem.W.Frag} {ρ : List Addr} {G H : Hp} {vs : List V} {ds : List D} (hN : d.N = N) (hl : ds.length ≤ N.length) (r : Rps K ρ G vs ds) : EnvS K H ρ G H (startE d ds) (L2.start N vs) := by
  subst hN
  have hv := r.length
  have get : ∀ (i : Nat) (s : Sl), (startE d ds)[i]? = some s → (i < ds.length ∧ ∃ x, ds[i]? = some x ∧ s = .fz x) ∨ s = .no := fun i s e => by
    unfold startE at e
    by_cases h : i < ds.length
    · left
      rw [List.getElem?_append_left (by rw [List.length_map]; exact h), List.getElem?_map, List.getElem?_eq_getElem h] at e
      exact ⟨h, ds[i], List.getElem?_eq_getElem h, by simpa using e.symm⟩
    · right
      rw [List.getElem?_append_right (by rw [List.length_map]; omega)] at e
      have := List.mem_of_getElem? e
      exact (List.mem_replicate.mp this).2
  refine ⟨⟨?_, fun i s v e1 e2 => ?_, fun i j a b c e1 e2 e3 e4 => ?_⟩, fun i a b e1 e2 => ?_⟩
  · unfold startE L2.start
    rw [List.length_append, List.length_append, List.length_map, List.length_map, List.length_replicate, List.length_replicate, hv]
  · rcases get i s e1 with ⟨h, x, ex, rfl⟩ | rfl
    · obtain ⟨y, ey, ry⟩ := r.get ex
      unfold L2.start at e2
      rw [List.getElem?_append_left (by rw [List.length_map, hv]; exact h), List.getElem?_map, ey] at e2
      have e2 : some y = v := by simpa using e2
      exact ⟨y, e2.symm, ry⟩
    · trivial
  · rcases get i _ e1 with ⟨h, x, ex, z⟩ | z <;> cases z
  · rcases get i _ e1 with ⟨h, x, ex, z⟩ | z <;> cases z
theorem Post.ofRun {K : PySem.W.Frag} {ρ : List Addr} {Gh H : Hp} {Q : VK} {E : XK} {r : RS} (p : Post K (fun cls d _ H' => E cls d H') (kV K) ρ Gh H [] Q (match r with
    | .nx _ T => .ok (.non, false) T
    | .rt d b T => .ok (d, b) T
    | .ex x _ T => .ex x T
    | _ => .bad)) : PostS K (fun cls d _ H' => E cls d H') ρ Gh H { nx := fun _ H' => Q .non H', rt := Q } ρ Gh H r := by
  cases r with
  | nx σ T => exact fun ρ' G' H' σv t _ w _ => p .non ρ' G' H' t w .non
  | rt d b T => exact fun v ρ' G' H' t _ w kv => p v ρ' G' H' t w kv
  | ex x σ T => exact fun cls d ρ' G' H' σv t _ w _ xr => p cls d ρ' G' H' t w xr
  | bk σ T => exact (show False from p).elim
  | ct σ T => exact (show False from p).elim
  | bad => exact (show False from p).elim
/-- the contexts of a module's defs -/
structure OfM (P : Program) (w : World) (K : PySem.W.Frag) (mg : Str → Option Value) (base : Heap) (X : Cx) : Prop where
  prog : X.prog = P
  w : X.w = w
  K : X.K = K
  mg : X.mg = mg
  base : X.base = base
theorem ok_def {P : Program} {w : World} {K : PySem.W.Frag} {mg : Str → Option Value} {base : Heap} {G : Gi} {EI : Ei} {U : ExtT} {C : CallT} {M L k : Nat} {d : Df} {x qual : Str} {params : Arguments} {ps : List Str} {f : Addr} {fd : FuncData}
    (Fd : FunD K x qual params d.body d.sc [] [] f fd) (Sc : FnScope d.N ps d.sc) (hps : ps.length = d.np)
    (gx : ∀ (cdv : Value) (A : Around) (outer : List PySem.Env) (s : Shared) (H : Hp) (E : XK), Room k (A.deeper (envOfC qual d.sc s.heap.objs.size f cdv)) → Gx (cxOf (L2N.CX P w) P w K mg base d.N qual d.sc f cdv A outer s H E) G C)
    (sx : ∀ (cdv : Value) (A : Around) (outer : List PySem.Env) (s : Shared) (H : Hp) (E : XK), Room k (A.deeper (envOfC qual d.sc s.heap.objs.size f cdv)) → Sx G EI C U (cxOf (L2N.CX P w) P w K mg base d.N qual d.sc f cdv A outer s H E) (fun cls d _ H' => E cls d H')) :
    FnOk P w K mg base (L2N.CX P w) (k + 1) f fd ps (fun vs H Q E => ∃ ρ Gh T ds, Wd K ρ Gh H T ∧ Rps K ρ Gh vs ds ∧ Post K (fun cls d _ H' => E cls d H') (kV K) ρ Gh H [] Q (runDf G EI U C M L d ds T)) := by
  have hN : ps.length ≤ d.N.length := by
    have := congrArg List.length Sc.pre
    rw [List.length_take] at this
    omega
  refine Fd.ok Sc (fun vs H Q E h => ?_) (fun cdv A outer s H vs Q E hr h => ?_)
  · obtain ⟨ρ, Gh, T, ds, _, r, p⟩ := h
    unfold runDf at p
    split at p
    · rename_i hl
      rw [r.length, hl, hps]
    · exact (show False from p).elim
  · obtain ⟨ρ, Gh, T, ds, wd, r, p⟩ := h
    unfold runDf at p
    split at p
    · rename_i hl
      let X := cxOf (L2N.CX P w) P w K mg base d.N qual d.sc f cdv A outer s H E
      let F : Fi := ⟨d.N, d.sc, fun _ => true⟩
      have fit : Fit X F := ⟨rfl, rfl, rfl, rfl, Sc.nd⟩
      have tk : L2N.Takes X (fun cls d _ H' => E cls d H') := L2N.takes_of (X := X) rfl rfl rfl rfl
      refine ⟨SR K (fun cls d _ H' => E cls d H') (stmsBy (sn G EI U C M L) d.body F), sm_seq (X := X) (F := F) (fun st => sm_sn (gx cdv A outer s H E hr) fit tk (sx cdv A outer s H E hr) M L st) d.body, ρ, Gh, H, ρ, Gh, T, startE d ds, .refl, wd, start_get rfl (by omega) r, ?_⟩
      exact Post.ofRun p
    · exact (show False from p).elim
/-- what the module's head tells -/
structure ModH (P : Program) (w : World) (K : PySem.W.Frag) (mg : Str → Option Value) (base : Heap) (G : Gi) (tab : List (Str × Df)) : Prop where
  fn : ∀ f d, tab.lookup f = some d → ∃ (fa : Addr) (fd : FuncData) (ps : List Str) (x qual : Str) (params : Arguments), FunD K x qual params d.body d.sc [] [] fa fd ∧ FnScope d.N ps d.sc ∧ ps.length = d.np ∧ mg f = some (.ref fa) ∧ Binds K fd ps []
  dom : ∀ f ∈ G.fn, ∃ d, tab.lookup f = some d
  blt : ∀ x ∈ bltNames, mg x = none
  cst : ∀ x d, G.cst.lookup x = some d → ∃ u v, mg x = some u ∧ RelV v u ∧ ∀ ρ (Gh : Hp), Rp K ρ Gh v d
/-- exceptions and a law's own statements, over any promise of the calls -/
def ModX (P : Program) (w : World) (K : PySem.W.Frag) (mg : Str → Option Value) (base : Heap) (G : Gi) (EI : Ei) (U : ExtT) : Prop :=
  ∀ (C : CallT) (N : List Str) (qual : Str) (sc : Scope) (f : Addr) (cdv : Value) (A : Around) (outer : List PySem.Env) (s : Shared) (H : Hp) (E : XK) (k : Nat), Room (k + 4) (A.deeper (envOfC qual sc s.heap.objs.size f cdv)) → N.Nodup →
    Gx (cxOf (L2N.CX P w) P w K mg base N qual sc f cdv A outer s H E) G C → Sx G EI C U (cxOf (L2N.CX P w) P w K mg base N qual sc f cdv A outer s H E) (fun cls d _ H' => E cls d H')
theorem fn_all {P : Program} {w : World} {K : PySem.W.Frag} {mg : Str → Option Value} {base : Heap} {G : Gi} {tab : List (Str × Df)} {EI : Ei} {U : ExtT} {M L : Nat} (mh : ModH P w K mg base G tab) (mx : ModX P w K mg base G EI U) :
    ∀ (n : Nat) (f : Str) (d : Df), tab.lookup f = some d → ∃ fa fd ps, FnOk P w K mg base (L2N.CX P w) (n + 4) fa fd ps (spC K (callN G EI U M L tab n) f) ∧ mg f = some (.ref fa) ∧ PySem.W.keepIn K (.ref fa) = true ∧ Binds K fd ps [] ∧ ps.length = d.np
  | 0, f, d, hd => by
    obtain ⟨fa, fd, ps, x, qual, params, Fd, Sc, hps, hm, hb⟩ := mh.fn f d hd
    exact ⟨fa, fd, ps, ⟨fun vs H Q E ⟨ρ, Gh, T, ds, _, _, p⟩ => (show False from p).elim, fun A outer s H args us vs Q E hr he hb hv ⟨ρ, Gh, T, ds, _, _, p⟩ => (show False from p).elim⟩, hm, Fd.kp, hb, hps⟩
  | n + 1, f, d, hd => by
    obtain ⟨fa, fd, ps, x, qual, params, Fd, Sc, hps, hm, hb⟩ := mh.fn f d hd
    have gx : ∀ (cdv : Value) (A : Around) (outer : List PySem.Env) (s : Shared) (H : Hp) (E : XK), Room (n + 4) (A.deeper (envOfC qual d.sc s.heap.objs.size fa cdv)) → Gx (cxOf (L2N.CX P w) P w K mg base d.N qual d.sc fa cdv A outer s H E) G (callN G EI U M L tab n) := fun cdv A outer s H E hr => by
      refine ⟨fun f' hf' => ?_, mh.blt, mh.cst, ?_⟩
      · obtain ⟨d', hd'⟩ := mh.dom f' hf'
        obtain ⟨fa', fd', ps', ok', hm', kp', hb', _⟩ := fn_all mh mx n f' d' hd'
        exact ⟨n + 4, fa', fd', ps', ok', hr, hm', kp', hb'⟩
      · have := hr.un
        show (A.deeper (envOfC qual d.sc s.heap.objs.size fa cdv)).units + 200 < cLine
        omega
    refine ⟨fa, fd, ps, (ok_def (M := M) (L := L) Fd Sc hps gx fun cdv A outer s H E hr => mx _ _ _ _ _ _ _ _ _ _ _ n hr Sc.nd (gx cdv A outer s H E hr)).imp fun vs H Q E h => ?_, hm, Fd.kp, hb, hps⟩
    obtain ⟨ρ, Gh, T, ds, wd, r, p⟩ := h
    refine ⟨ρ, Gh, T, ds, wd, r, ?_⟩
    have e : callN G EI U M L tab (n + 1) f ds T = runDf G EI U (callN G EI U M L tab n) M L d ds T := by
      show (match tab.lookup f with
        | some d => runDf G EI U (callN G EI U M L tab n) M L d ds T
        | none => .bad) = _
      rw [hd]
    rw [← e]
    exact p
end Mi


set_option Elab.async false
set_option linter.all false
set_option maxRecDepth 100000
/-! MiP: an own exception over ValueError whose __init__ says super().__init__(..) and keeps one field. -/
namespace PySem
namespace MiX
open PySem.W PySem.Calls PyProof.Rows PySem.HandSPX
/-- what the head tells of the class C, of its __init__ at fI (cell cc, code object cda) -/
structure OwnT (prog : Program) (K : Frag) (f : Str) (C fI cc cda : Addr) (q pn : Str) (params : Arguments) (body : List Stmt) (sc : Scope) : Prop where
  cls : ∃ nm qn N bs bm sn sub ab col dd k0 k1 k2 k3 k5, K.lookup C = some (excClassObj nm qn C N bs bm true sn sub ab col dd k0 k1 k2 k3 k5 "ValueError.__new__") ∧ refsVE bm = true
  sa : findIn K (.ref C) "__setattr__" = some (some (.builtin "object.__setattr__"))
  noF : findIn K (.ref C) f = some none
  iC : findIn K (.ref C) "__init__" = some (some (.ref fI))
  tC : typeIn K (.ref fI) = some (.type "function")
  kC : keepIn K (.ref C) = true
  exC : subIn K (.ref C) (.type "BaseException") = some true
  tyC : typeIn K (.ref C) = some (.type "type")
  fn : ∃ (oc : Value) (od : Option Addr) (doc pm : Value) (an : Option Addr) (ct : Value) (osl : Array (Option Value)),
    K.lookup fI = some ⟨oc, od, .func (ksFn "__init__" q params body sc .none .none doc pm an (.ref cda) ct cc), osl⟩
  hcd : codeIn K (.ref cda) q = true
  code : ∃ ccl cdd vs ccs file tf, K.lookup cda = some ⟨ccl, cdd, .fields vs, ccs⟩ ∧ vs[2]? = some (.str file tf) ∧ ((prog.main.file : Str) == file) = true
  cell : ∃ cl cld csl, K.lookup cc = some ⟨cl, cld, .cell (some (.ref C)), csl⟩
  selfC : mroIn K C (.ref C) = some true
  veC : mroIn K C (.type "ValueError") = some true
  sup : ks_superIn K C C "__init__" = some (some (.builtin "ValueError.__init__"))
  opq : nsIn K cStatics "thirdparty.any" = some none
/-- what the text of __init__ is -/
structure OwnB (prog : Program) (f q pn : Str) (params : Arguments) (body : List Stmt) (sc : Scope) (e0 : Expr) : Prop where
  bind : ∀ (doc pm : Value) (an : Option Addr) (cda : Addr) (ct : Value) (cc : Addr) (u v : Value), bindArgs (ksFn "__init__" q params body sc .none .none doc pm an (.ref cda) ct cc) ⟨[u, v], []⟩ = pure [(("self" : Str), u), (pn, v)]
  body_ : ∃ p0 p1 p2 p3 p4 q1 q2 q3 q4, body = [.Expr (.Call (.Attribute (.Call (.Name "super" p0) [] [] p1) "__init__" p2) [e0] [] p3) p4, .Assign [.Attribute (.Name "self" q1) f q2] (.Name pn q3) q4] ∧
    ∀ env : Env, ∃ pl : Sem Bool, eval (.Call (.Attribute (.Call (.Name "super" p0) [] [] p1) "__init__" p2) [e0] [] p3) env = (do
      let ov ← attributeBase (.Call (.Name "super" p0) [] [] p1) "__init__" env (eval (.Call (.Name "super" p0) [] [] p1) env)
      standAt p2.atName
      let (f, first) ← holding [ov] (getMethod ov "__init__" pl)
      callWith p3 f first (backTo p3 (starEach [e0] env)) [])
  star : ∀ env : Env, starEach [e0] env = [(false, eval e0 env)]
  nocell : ∀ x ∈ sc.names, x.2 ≠ .cell
  ks : sc.names.lookup ("super" : Str) = some .globalImplicit
  kc : sc.names.lookup ("__class__" : Str) = some .free
  kself : sc.names.lookup ("self" : Str) = some .local
  kpn : sc.names.lookup pn = some .local
  ne : pn ≠ ("self" : Str)
  dbg : (pn == ("__debug__" : Str)) = false
  kind : sc.kind = .function
  co : sc.isCoroutine = false
  gen : sc.isGenerator = false
  par : ∃ ar : Arg, (params.posonlyargs ++ params.args).head? = some ar ∧ ar.arg = ("self" : Str)
  top : (prog.main.scope.names.lookup ("super" : Str)).isSome = false
/-- what __init__ leaves of a fresh exception at x -/
structure IEnd (f : Str) (h h' : Heap) (x C dx t1 : Addr) (v : Value) : Prop where
  keep : ∀ b o, b ≠ x → h.get? b = some o → h'.get? b = some o
  obj : h'.get? x = some { cls := .ref C, dict := some dx, data := .fields #[.ref t1, .none, .none, .none, .bool false, .none] }
  dbig : h.objs.size ≤ dx
  dne : dx ≠ x
  ns : h'.Ns1 dx (fun y => if y = f then some v else none)
theorem In.but {K : Frag} {h h' : Heap} {x : Addr} (X : K.In h) (hx : K.lookup x = none) (k : ∀ b o, b ≠ x → h.get? b = some o → h'.get? b = some o) : K.In h' := fun a o e => by
  refine k a o (fun z => ?_) (X a o e)
  rw [z, hx] at e
  cases e
section
variable {prog : Program} {w : World} {A : Around} {E : Value → Shared → Prop} {R : Result → Shared → Prop} {K : Frag}
/-- the built-in __init__, bound to the exception, called -/
theorem call_mw {h : Heap} {g : Array GenState} {d : Drawn} {t : Nat} {os : OsState} {C u e t0 : Addr} {a : Value} {Q : Value → Shared → Prop} (hc : ∃ nm qn N bs bm sn sub ab col dd k0 k1 k2 k3 k5, h.get? C = some (excClassObj nm qn C N bs bm true sn sub ab col dd k0 k1 k2 k3 k5 "ValueError.__new__"))
    (he : h.get? e = some (HandSPX.excO C t0)) (hu : h.get? u = some (kxs_mw "ValueError.__init__" e)) (hq : ∀ h' t1, (∀ b o, b ≠ e → h.get? b = some o → h'.get? b = some o) → h'.get? e = some (HandSPX.excO C t1) → Q .none ⟨h', g, d, t, os⟩) :
    wpAny (model prog w) A (call (.ref u) [a]) Q E ⟨h, g, d, t, os⟩ := by
  obtain ⟨nm, qn, N, bs, bm, sn, sub, ab, col, dd, k0, k1, k2, k3, k5, hC⟩ := hc
  refine wpAny_call (codeAny_of_tree ?_)
  show wpAny _ A.in1 (callAny (.ref u) ⟨[a], []⟩) _ _ _
  simp only [callAny]
  refine wpAny_bind (wpAny_load hu ?_)
  have m1 : (Value.type "method-wrapper" == Value.type "method" || Value.type "method-wrapper" == Value.type "builtin_function_or_method" || Value.type "method-wrapper" == Value.type "method-wrapper") = true := by decide
  simp only [kxs_mw, m1, if_true]
  refine W.KFB.if_so (by decide) ?_
  refine wpAny_bind (W.check_bound_init F.excBase_ValueError.toExcCallFacts hC he rfl ?_)
  refine wpAny_bind (wpAny_pure (wpAny_pure ?_))
  refine ⟨plainId_quiet F.excBase_ValueError.init.plain _, codeAny_builtin F.excBase_ValueError.initEntry ?_⟩
  exact W.exc_init_tree (cls := .ref C) (t0 := t0) (dv := none) (c2 := .none) (c3 := .none) (b4 := .bool false) he (by show 1 ≤ sizeLine; decide) fun h' k e' _ => hq h' _ k e'
theorem own_init {f q pn : Str} {C fI cc cda : Addr} {params : Arguments} {body : List Stmt} {sc : Scope} {e0 : Expr} (T : OwnT prog K f C fI cc cda q pn params body sc) (B : OwnB prog f q pn params body sc e0)
    {x t0 : Addr} {v : Value} {s : Shared} {mg mb : Str → Option Value} (X : K.In s.heap) (hlim : s.heap.NoLimit) (hx : s.heap.get? x = some (HandSPX.excO C t0)) (hnx : K.lookup x = none) (hroom : A.depth < recursionLimit)
    (hG : s.heap.Ns mainGlobals mg) (hgs : mg "super" = none) (hB : s.heap.Ns builtinsNs mb) (hbs : mb "super" = some (.type "super"))
    (he0 : ∀ (env : Env) (s1 : Shared) (E1 : Value → Shared → Prop) (A1 : Around) (Q1 : Value → Shared → Prop), env.scope.kind = .function → env.kindOf pn = some .local → s1.heap.Ns env.locals (fun y => ([(pn, v), (("self" : Str), Value.ref x)] : List (Str × Value)).lookup y) → (∀ u tk, Q1 u { s1 with toks := tk }) → wpAny (model prog w) A1 (eval e0 env) Q1 E1 s1)
    (hq : ∀ h' tk dx t1, IEnd f s.heap h' x C dx t1 v → R (.ok (.ret .none)) { s with heap := h', toks := tk }) :
    codeAny (model prog w) A (.call (.ref fI) ⟨[.ref x, v], []⟩) R s := by
  obtain ⟨hp0, g0, d0, tk0, os0⟩ := s
  obtain ⟨oc, od, doc, pm, an, ct, osl, ho⟩ := T.fn
  obtain ⟨nm, qn, N, bs, bm, sn, sub, ab, col, dd, k0, k1', k2', k3, k5, hC, hbm⟩ := T.cls
  obtain ⟨p0, p1, p2, p3, p4, q1, q2, q3, q4, rfl, hev⟩ := B.body_
  obtain ⟨ar, har, hra⟩ := B.par
  obtain ⟨ccl, cdd, vs, ccs, file, tf, hcode, hvs, hfile⟩ := T.code
  obtain ⟨cl, cld, csl, hcell⟩ := T.cell
  have hcl : clsIn K C = some { name := nm, bases := bs, mro := .ref C :: bm, ns := N, qualname := qn, hasDict := true, slotNames := sn, subclasses := sub, abstract := ab, collection := col, hasDel := false } := by
    unfold clsIn
    rw [hC] <;> rfl
  have hpl : (backTo p3 (starEach [e0] (callEnv (ksFn "__init__" q params [.Expr (.Call (.Attribute (.Call (.Name "super" p0) [] [] p1) "__init__" p2) [e0] [] p3) p4, .Assign [.Attribute (.Name "self" q1) f q2] (.Name pn q3) q4] sc .none .none doc pm an (.ref cda) ct cc) hp0.objs.size fI))).any (·.1) = false := by
    rw [B.star]
    rfl
  refine ks_codeAny_call_defAt (binds := [(("self" : Str), .ref x), (pn, v)]) hroom (X _ _ ho) rfl hlim (codeRec_of X T.hcd) rfl (BindsTo.of_eq (B.bind doc pm an cda ct cc (.ref x) v)) B.nocell ?_ (fun h₀ hns k => ?_) B.co B.gen B.kind
  · intro y hy
    rcases List.mem_cons.mp hy with rfl | hy
    · exact B.kself
    · rcases List.mem_cons.mp hy with rfl | hy
      · exact B.kpn
      · cases hy
  have X₀ : K.In h₀ := Frag.In.keeps X k
  have hx₀ := k _ _ hx
  have hns' : h₀.Ns hp0.objs.size (fun y => ([(pn, v), (("self" : Str), Value.ref x)] : List (Str × Value)).lookup y) := hns
  have hself : ([(pn, v), (("self" : Str), Value.ref x)] : List (Str × Value)).lookup ("self" : Str) = some (.ref x) := by
    have : (("self" : Str) == pn) = false := by simpa using fun z => B.ne z.symm
    simp [List.lookup, this]
  have hpv : ([(pn, v), (("self" : Str), Value.ref x)] : List (Str × Value)).lookup pn = some v := by simp [List.lookup]
  have hin : interactive (callEnv (ksFn "__init__" q params [.Expr (.Call (.Attribute (.Call (.Name "super" p0) [] [] p1) "__init__" p2) [e0] [] p3) p4, .Assign [.Attribute (.Name "self" q1) f q2] (.Name pn q3) q4] sc .none .none doc pm an (.ref cda) ct cc) hp0.objs.size fI) = false := by
    unfold interactive
    simp [callEnv, newEnv, B.kind]
  refine ks_wpAt_execs_cons (ks_wpAt_Expr_any ?_ hin rfl)
  obtain ⟨pl, hev⟩ := hev (callEnv (ksFn "__init__" q params [.Expr (.Call (.Attribute (.Call (.Name "super" p0) [] [] p1) "__init__" p2) [e0] [] p3) p4, .Assign [.Attribute (.Name "self" q1) f q2] (.Name pn q3) q4] sc .none .none doc pm an (.ref cda) ct cc) hp0.objs.size fI)
  refine ks_wpAt_MethodCall (pl := pl) ?_ hev
  refine ks_wpAt_super_base (vs := vs) (file := file) (tf := tf) (f := fI) (cc := cda) (ar := ar) B.ks B.kc (by decide +kernel) rfl (X₀ _ _ ho) rfl har rfl (X₀ _ _ hcode) rfl hvs hfile B.top ?_
  have hDC : ∃ oD, h₀.get? C = some oD ∧ oD.data = .cls { name := nm, bases := bs, mro := .ref C :: bm, ns := N, qualname := qn, hasDict := true, slotNames := sn, subclasses := sub, abstract := ab, collection := col, hasDel := false } := ⟨_, X₀ _ _ hC, rfl⟩
  obtain ⟨oD, hD1, hD2⟩ := hDC
  have mrl : ∀ {h : Heap}, K.In h → Looks (model prog w) h (mroOf (.ref C)) (.ref C :: bm) := fun {h} Y => (W.looks_clsIn Y hcl).andThen .now
  refine ks_loadName_global B.kind B.ks (loadGlobal_builtin (env := callEnv _ _ _) (hG.keeps k) hgs (hB.keeps k) hbs ⟨rfl, ?_⟩)
  refine wpAny_loadName_free B.kind B.kc rfl ⟨_, X₀ _ _ hcell, rfl⟩ ?_
  rw [hra]
  refine wpAny_loadName_local B.kind B.kself hns' hself ?_
  refine ks_wpAny_isType_cls hD1 hD2 ⟨rfl, ?_⟩
  refine ks_wpAny_call_super (C := C) hD1 hD2 hx₀ rfl (fun c e => by cases e) (looks_mroIn X₀ T.selfC) (fun h1 e1 k1 => ?_)
  have X₁ : K.In h1 := Frag.In.keeps X₀ k1
  have hx₁ := k1 _ _ hx₀
  have I₁ : InstAt h1 x (HandSPX.excO C t0) C none := ⟨hx₁, rfl, rfl, trivial⟩
  have hns₁ : h1.Ns hp0.objs.size (fun y => ([(pn, v), (("self" : Str), Value.ref x)] : List (Str × Value)).lookup y) := hns'.keeps k1
  refine kxs_getMethod kxs_ValueError (l₀ := .ref C :: bm) e1 (looks_opaque X₁ T.opq) (mrl X₁) rfl X₁ ?_ (I₁.type.andThen (looks_mroIn X₁ T.veC)) (ks_ne X₁ I₁ hcl) (by decide +kernel) ?_
  · have q := T.sup
    unfold ks_superIn at q
    rw [hcl] at q
    exact q
  have k2 : ∀ b o, h1.get? b = some o → (h1.push (kxs_mw "ValueError.__init__" x)).get? b = some o := fun b o e => Heap.get?_push_of_some _ e
  have hmw : (h1.push (kxs_mw "ValueError.__init__" x)).get? h1.objs.size = some (kxs_mw "ValueError.__init__" x) := Heap.get?_push_at rfl rfl
  refine kxs_callWith (i := "ValueError.__init__") (x := x) hpl ?_
  rw [B.star]
  refine evalArgs_plain (Calls.spliced_cons ?_)
  refine he0 _ _ _ _ _ B.kind B.kpn (hns₁.keeps k2) fun u tk => Calls.spliced_nil ⟨hmw, ?_⟩
  refine call_mw (C := C) (t0 := t0) ⟨nm, qn, N, bs, bm, sn, sub, ab, col, dd, k0, k1', k2', k3, k5, k2 _ _ (X₁ _ _ hC)⟩ (k2 _ _ hx₁) hmw fun h3 t1 k3' hx3 => ?_
  have X₃ : K.In h3 := In.but (Frag.In.keeps X₁ k2) hnx k3'
  have hLx : hp0.objs.size ≠ x := Nat.ne_of_gt (Heap.lt_size hx)
  have hns₃ : h3.Ns hp0.objs.size (fun y => ([(pn, v), (("self" : Str), Value.ref x)] : List (Str × Value)).lookup y) := (hns₁.keeps k2).at fun o q => k3' _ _ hLx q
  refine ks_wpAt_execs_cons (ks_wpAt_Assign_Attr ?_ rfl)
  refine wpAt_of_wpAny (wpAny_Name ?_ B.dbg)
  refine wpAny_loadName_local B.kind B.kpn hns₃ hpv ?_
  refine wpAny_Name ?_ (by decide +kernel)
  refine wpAny_loadName_local B.kind B.kself hns₃ hself ?_
  refine set_plain X₃ (ox := HandSPX.excO C t1) (od := none) ⟨hx3, rfl, rfl, trivial⟩ T.sa ?_
  refine HandSPX.exc_osa X₃ hx3 hcl (show refsVE (.ref C :: bm) = true from hbm) rfl T.noF (fun h4 tk4 dx k4 dn dne hx4 hn4 => ?_)
  refine wpAt_of_wpAny (wpAny_execs_nil ?_)
  have lt : hp0.objs.size < h3.objs.size := hns₃.lt
  exact hq h4 tk4 dx t1 ⟨fun b o hb e => k4 b o hb (k3' b o hb (k2 b o (k1 b o (k b o e)))), hx4, Nat.le_of_lt (Nat.lt_of_lt_of_le lt dn), dne, hn4⟩
/-- a made exception -/
structure OMade (f : Str) (h h' : Heap) (e C d : Addr) (v : Value) : Prop where
  keep : ∀ b o, h.get? b = some o → h'.get? b = some o
  new : h.objs.size ≤ e
  obj : ∃ oe vs, h'.get? e = some oe ∧ oe.cls = .ref C ∧ oe.dict = some d ∧ oe.data = .fields vs ∧ vs[1]? = some .none ∧ vs[2]? = some .none
  dbig : h.objs.size ≤ d
  dne : d ≠ e
  ns : h'.Ns1 d (fun y => if y = f then some v else none)
theorem own_made {f q pn : Str} {C fI cc cda : Addr} {params : Arguments} {body : List Stmt} {sc : Scope} {e0 : Expr} (T : OwnT prog K f C fI cc cda q pn params body sc) (B : OwnB prog f q pn params body sc e0)
    {v : Value} {s : Shared} {mg mb : Str → Option Value} (X : K.In s.heap) (hlim : s.heap.NoLimit) (hroom : A.depth + 1 < recursionLimit)
    (hG : s.heap.Ns mainGlobals mg) (hgs : mg "super" = none) (hB : s.heap.Ns builtinsNs mb) (hbs : mb "super" = some (.type "super"))
    (he0 : ∀ (x : Addr) (env : Env) (s1 : Shared) (E1 : Value → Shared → Prop) (A1 : Around) (Q1 : Value → Shared → Prop), env.scope.kind = .function → env.kindOf pn = some .local → s1.heap.Ns env.locals (fun y => ([(pn, v), (("self" : Str), Value.ref x)] : List (Str × Value)).lookup y) → (∀ u tk, Q1 u { s1 with toks := tk }) → wpAny (model prog w) A1 (eval e0 env) Q1 E1 s1)
    (hq : ∀ h' tk e d, OMade f s.heap h' e C d v → R (.ok (.ret (.ref e))) { s with heap := h', toks := tk }) :
    codeAny (model prog w) A (.call (.ref C) ⟨[v], []⟩) R s := by
  obtain ⟨nm, qn, N, bs, bm, sn, sub, ab, col, dd, k0, k1, k2, k3, k5, hC, hbm⟩ := T.cls
  obtain ⟨hp, g, dr, tk, os⟩ := s
  have k : ∀ b o, hp.get? b = some o → ((hp.push (kdv_tup [v])).push (HandSPX.excO C hp.objs.size)).get? b = some o := fun b o e => Heap.get?_push_of_some _ (Heap.get?_push_of_some _ e)
  have hget : ((hp.push (kdv_tup [v])).push (HandSPX.excO C hp.objs.size)).get? (hp.objs.size + 1) = some (HandSPX.excO C hp.objs.size) := by heap_get
  have hnx : K.lookup (hp.objs.size + 1) = none := by
    cases e : K.lookup (hp.objs.size + 1) with
    | none => rfl
    | some o =>
      have z : hp.get? (hp.objs.size + 1) = some o := X _ _ e
      exact absurd (Nat.lt_of_succ_lt (Heap.lt_size z)) (Nat.lt_irrefl _)
  have one : [v].length ≤ sizeLine := by show 1 ≤ sizeLine; decide
  refine HandSPX.call_own F.excBase_ValueError (fun X => HandSPX.refsVE_contains X bm hbm) (X _ _ hC) (looks_findIn X T.iC) (fun self => bind_fn X self T.tC) one ?_
  refine own_init (s := ⟨(hp.push (kdv_tup [v])).push (HandSPX.excO C hp.objs.size), g, dr, tk, os⟩) T B (Frag.In.keeps X k) (hlim.keeps k) hget hnx hroom (hG.keeps k) hgs (hB.keeps k) hbs (he0 _) ?_
  intro h' tk' dx t1 ⟨k', hx, dn, dne, hns⟩
  have old : ∀ b o, hp.get? b = some o → h'.get? b = some o := fun b o e => k' b o (Nat.ne_of_lt (Nat.lt_succ_of_lt (Heap.lt_size e))) (k b o e)
  have z : hp.objs.size + 1 + 1 ≤ dx := by
    first
      | exact dn
      | (have q := dn; rw [Heap.size_push, Heap.size_push] at q; exact q)
  exact ⟨rfl, hq h' tk' (hp.objs.size + 1) dx ⟨old, Nat.le_succ _, ⟨_, _, hx, rfl, rfl, rfl, rfl, rfl⟩, Nat.le_trans (Nat.le_trans (Nat.le_succ _) (Nat.le_succ _)) z, dne, hns⟩⟩
end
end MiX
end PySem
namespace Mi
open PySem PySem.Spec PyProof.Rows L2
theorem relO_one {f : Str} {v : V} {v' : Value} (r : RelV v v') (y : Str) : RelO (List.lookup y [(f, v)]) (if y = f then some v' else none) := by
  by_cases hw : y = f
  · subst hw
    rw [if_pos rfl, show List.lookup y [(y, v)] = some v by simp [List.lookup]]
    exact r
  · have hb : (y == f) = false := by simpa using hw
    rw [if_neg hw, show List.lookup y [(f, v)] = none by simp [List.lookup, hb]]
    trivial
/-- C(e), C an own exception with one field -/
theorem pmk_one {X : Cx} {a : Expr} {ta : TA} {p pos : Pos} {k : Nat} {x f q pn : Str} {C fI cc cda : Addr} {params : Arguments} {body : List Stmt} {sc : Scope} {e0 : Expr} (T : PySem.MiX.OwnT X.prog X.K f C fI cc cda q pn params body sc) (B : PySem.MiX.OwnB X.prog f q pn params body sc e0)
    (gC : X.mg x = some (.ref C)) (gS : X.mg "super" = none) (hr : Room k X.A) (ha : PA X [a] ta) (hg : Gl X x) (hdb : (x == ("__debug__" : Str)) = false) (hn : notStar a = true) {P : V → Prop}
    (he0 : ∀ (v : V) (u : Value), P v → RelV v u → ∀ (xa : Addr) (env : PySem.Env) (s1 : Shared) (E1 : Value → Shared → Prop) (A1 : Around) (Q1 : Value → Shared → Prop), env.scope.kind = .function → env.kindOf pn = some .local → s1.heap.Ns env.locals (fun y => ([(pn, u), (("self" : Str), Value.ref xa)] : List (Str × Value)).lookup y) → (∀ u tk, Q1 u { s1 with toks := tk }) → wpAny (model X.prog X.w) A1 (eval e0 env) Q1 E1 s1) :
    L2N.PMk X (.Call (.Name x p) [a] [] pos) (fun σ H Q => ta σ H fun vs H1 => ∃ v, vs = [v] ∧ P v ∧ ∀ d, H1 d = none → Q (.ref C) (some d) (upd H1 d (.xd [(f, v)]))) := by
  intro pins s σ H Q I h
  refine wpAny_Call_Name_kw (ld_glob I hg gC ?_ hdb)
  refine PySem.W.callWith_K (h₀ := X.base) I.ok.mod.kin T.kC (thn (ha.run pos pins s σ H _ I h) fun us s1 hh => ?_) (star_of hn [] X.env) rfl
  obtain ⟨vs, H1, I1, r1, v, ev, pv, q1⟩ := hh
  subst ev
  refine ⟨I1.kIn, ?_⟩
  cases r1 with
  | cons rv rn =>
    rename_i v' us'
    cases rn
    show wpAny _ _ (call (.ref C) [v']) _ _ _
    have hlim := I1.nolimit
    have hG : s1.heap.Ns mainGlobals X.mg := I1.mod.glob.keeps I1.bk
    obtain ⟨mb, hb1, hb2⟩ := I1.mod.blt
    have hB : s1.heap.Ns builtinsNs mb := hb1.keeps I1.bk
    obtain ⟨hp, g, dr, tk, os⟩ := s1
    refine wpAny_call (PySem.MiX.own_made T B I1.kIn hlim (by have := hr.dp; omega) hG gS hB ((hb2 _ (by decide)).trans (by decide +kernel)) (he0 v v' pv rv) fun h' tk' e d M => ?_)
    show L2N.MkP X pins σ Q (.ref e) ⟨h', g, dr, tk', os⟩
    obtain ⟨oe, fv, hoe, hc, hd, hdat, h1, h2⟩ := M.obj
    have hns := M.ns
    obtain ⟨G', g1, g2⟩ := restrict h' fun b => decide (b ≠ e)
    have gk : ∀ b, b ≠ e → G'.get? b = h'.get? b := fun b hb => g1 b (decide_eq_true hb)
    have ge : G'.get? e = none := g2 e (by simp)
    have old : ∀ b o, hp.get? b = some o → G'.get? b = some o := fun b o q => (gk b (Nat.ne_of_lt (Nat.lt_of_lt_of_le (Heap.lt_size q) M.new))).trans (M.keep b o q)
    have ob : ObjOk X.prog X.w (upd H1 d (.xd [(f, v)])) G' d (.xd [(f, v)]) := ⟨_, hns.at (fun o q => (gk d M.dne).trans q), fun y => relO_one rv y⟩
    have J : Inv X pins σ (upd H1 d (.xd [(f, v)])) ⟨G', g, dr, tk', os⟩ := I1.laid (t' := tk') old M.dbig ob
    refine ⟨e, oe, fv, ⟨G', g, dr, tk', os⟩, _, .ref C, some d, rfl, J, fun b o q => ?_, ge, hoe, ⟨hc, hd, fun vs hv => by rw [hdat] at hv; cases hv; exact h2⟩, hdat, h1, ?_, rfl, I1.bare, raises_own T.exC T.tyC, q1 d (I1.hok.fresh M.dbig)⟩
    · by_cases hb : b = e
      · have q' : G'.get? b = some o := q
        rw [hb, ge] at q'
        cases q'
      · exact (gk b hb).symm.trans q
    · rw [upd_ne (Ne.symm M.dne)]
      exact I1.hok.fresh M.new
end Mi


set_option Elab.async false
set_option linter.all false
set_option maxRecDepth 100000
/-! MiQ: the interpreter's steps without the text: combinators that a tool prints, one def each. -/
namespace Mi
open PySem
def V (m : EM (D × Bool)) : EM D := EM.bind m fun d => EM.pure d.1
def kE (d : D) : EM (D × Bool) := fun _ T => .ok (d, false) T
def seqL : List (EM D) → EM (List D)
  | [] => EM.pure []
  | m :: ms => EM.bind m fun d => EM.bind (seqL ms) fun ds => EM.pure (d :: ds)
def binE (op : Operator) (a b : EM D) : EM (D × Bool) := EM.bind a fun x => EM.bind b fun y => EM.bind (EM.lift (binD op x y)) fun d => EM.pure (d, isLst d)
def negE (a : EM D) : EM (D × Bool) := EM.bind a fun x => match x with
  | .int i => EM.pure (.int (-i), false)
  | _ => EM.bad
def notE (a : EM D) : EM (D × Bool) := EM.bind a fun x => EM.bind (EM.lift (truD x)) fun b => EM.pure (.bl (!b), false)
def andE : List (EM D) → EM (D × Bool)
  | [] => EM.bad
  | [m] => EM.bind m fun d => EM.pure (d, false)
  | m :: ms => EM.bind m fun d => EM.bind (EM.lift (truD d)) fun b => if b then andE ms else EM.pure (d, false)
def orE : List (EM D) → EM (D × Bool)
  | [] => EM.bad
  | [m] => EM.bind m fun d => EM.pure (d, false)
  | m :: ms => EM.bind m fun d => EM.bind (EM.lift (truD d)) fun b => if b then EM.pure (d, false) else orE ms
def cmpE (op : CmpOp) (a b : EM D) : EM Bool := EM.bind a fun x => EM.bind b fun y => EM.lift (cmpD op x y)
def chE (op op2 : CmpOp) (a b c : EM D) : EM Bool := EM.bind a fun x => EM.bind b fun y => EM.bind (EM.lift (cmpD op x y)) fun k =>
  if k then EM.bind c fun z => EM.lift (cmpD op2 y z) else EM.pure false
def blE (m : EM Bool) : EM (D × Bool) := EM.bind m fun k => EM.pure (.bl k, false)
def ifE (t : EM Bool) (a b : EM (D × Bool)) : EM (D × Bool) := EM.bind t fun t => if t then a else b
def tupE (ms : List (EM D)) : EM (D × Bool) := EM.bind (seqL ms) fun ds => if fits ds.length then EM.pure (.tup ds, false) else EM.bad
def lstE (ms : List (EM D)) : EM (D × Bool) := EM.bind (seqL ms) fun ds => if fits ds.length then EM.pure (.lst ds, true) else EM.bad
def oN : EM (Option Int) := EM.pure none
def oS (m : EM D) : EM (Option Int) := EM.bind m fun d => match d with
  | .int i => EM.pure (some i)
  | _ => EM.bad
def slE (a : EM D) (l h : EM (Option Int)) : EM (D × Bool) := EM.bind a fun x => EM.bind l fun l => EM.bind h fun h => EM.bind (EM.lift (sliceD x l h)) fun d => EM.pure (d, isLst d)
def ixE (a i : EM D) : EM (D × Bool) := EM.bind a fun x => EM.bind i fun j => EM.bind (itemM x j) fun d => EM.pure (d, false)
def callC (C : CallT) (f : Str) (ms : List (EM D)) : EM (D × Bool) := EM.bind (seqL ms) fun ds _ T => C f ds T
def isiE (t : Str) (a : EM D) : EM (D × Bool) := EM.bind a fun d => if noObj d then EM.bind (EM.lift (isiD t d)) fun b => EM.pure (.bl b, false) else EM.bad
def lenE (a : EM D) : EM (D × Bool) := EM.bind a fun d => EM.bind (lenM d) fun k => EM.pure (k, false)
def listE (a : EM D) : EM (D × Bool) := EM.bind a fun d => listM d
def listRgE (a : EM D) : EM (D × Bool) := EM.bind a fun d => match d with
  | .int j => if small62 j && decide (j ≤ 16777216) then EM.pure (.lst (rangeD 0 j.toNat), true) else EM.bad
  | _ => EM.bad
def bltE (f : Str) (a : EM D) : EM (D × Bool) := EM.bind a fun d => EM.lift (bltD f [d])
/-! ### what is walked, targets -/
def itR1 (a : EM D) : EM (List D) := EM.bind a fun d => match d with
  | .int j => if small62 j then EM.pure (rangeD 0 j.toNat) else EM.bad
  | _ => EM.bad
def itR2 (a b : EM D) : EM (List D) := EM.bind a fun d => EM.bind b fun d2 => match d, d2 with
  | .int i, .int j => if small62 i && small62 j then EM.pure (rangeD i (j - i).toNat) else EM.bad
  | _, _ => EM.bad
def itEn (a : EM D) : EM (List D) := EM.bind a fun d => match d with
  | .lst ds => EM.pure (enumFrom 0 ds)
  | _ => EM.bad
def itRv (a : EM D) : EM (List D) := EM.bind a fun d => match d with
  | .lst ds => EM.pure ds.reverse
  | _ => EM.bad
def itX (a : EM D) : EM (List D) := EM.bind a fun d => itemsM d
def bindIs : List Nat → List D → Env → Option Env
  | [], [], σ => some σ
  | i :: is, d :: ds, σ => bindIs is ds (σ.set i (.fz d))
  | _, _, _ => none
def tgN (i : Nat) : D → Env → Option Env := fun d σ => some (σ.set i (.fz d))
def tgT (is : List Nat) : D → Env → Option Env := fun d σ => match d with
  | .tup ds => bindIs is ds σ
  | .lst ds => bindIs is ds σ
  | _ => none
def lcM (tg : D → Env → Option Env) (tst : EM Bool) (el : EM D) (own : List Nat) (it : EM (List D)) : EM (D × Bool) :=
  EM.bind it fun items σ T => (lcLoop tg tst el (wipeE σ own) items [] T).bind fun ds T1 => .ok (.lst ds, true) T1
/-! ### tests -/
def tAllE : List (EM Bool) → EM Bool
  | [] => EM.pure true
  | m :: ms => EM.bind m fun b => if b then tAllE ms else EM.pure false
def tAnyE : List (EM Bool) → EM Bool
  | [] => EM.pure false
  | m :: ms => EM.bind m fun b => if b then EM.pure true else tAnyE ms
def tNotE (m : EM Bool) : EM Bool := EM.bind m fun b => EM.pure (!b)
def truE (a : EM D) : EM Bool := EM.bind a fun x => EM.lift (truD x)
def yesE : EM Bool := EM.pure true
/-! ### statements -/
def sNx : SM := fun σ T => .nx σ T
def sSeq : List SM → SM
  | [] => fun σ T => .nx σ T
  | m :: ms => fun σ T => (m σ T).seq (sSeq ms)
def sRetN : SM := fun _ T => .rt .non false T
def sRetV (i : Nat) : SM := fun σ T => match σ[i]? with
  | some (.fz d) => .rt d false T
  | some (.ow d) => .rt d true T
  | _ => .bad
def sRet (m : EM (D × Bool)) : SM := fun σ T => (m σ T).then_ σ fun d T1 => .rt d.1 d.2 T1
def putI (i : Nat) (d : D) (fl : Bool) : SM := fun σ T => .nx (σ.set i (if fl then .ow d else .fz d)) T
def putR (i : Nat) (d : D) (fl : Bool) : SM := fun σ T => match d, fl with
  | .lst ds, true => .nx (σ.set i (.fz (.obj T.length))) (T ++ [.lst ds])
  | _, _ => .bad
def sSet (i : Nat) (m : EM (D × Bool)) : SM := fun σ T => (m σ T).then_ σ fun d T1 => putI i d.1 d.2 σ T1
def sSetR (i : Nat) (m : EM (D × Bool)) : SM := fun σ T => (m σ T).then_ σ fun d T1 => putR i d.1 d.2 σ T1
def isOwI (i : Nat) (σ : Env) : Bool := match σ[i]? with
  | some (.ow (.lst _)) => true
  | _ => false
def mutI (i : Nat) (m : Str) (ds : List D) (k : D → SM) : SM := fun σ T => match σ[i]? with
  | some (.ow (.lst xs)) => (match mutD m xs ds with
    | some (ys, r) => k r (σ.set i (.ow (.lst ys))) T
    | none => .bad)
  | _ => .bad
def sMut (i : Nat) (m : Str) (as : List (EM D)) (k : D → SM) : SM := fun σ T => if isOwI i σ then (seqL as σ T).then_ σ fun ds T1 => mutI i m ds k σ T1 else .bad
def sExt (i : Nat) (a : EM D) (k : D → SM) : SM := fun σ T => if isOwI i σ then (a σ T).then_ σ fun d T1 => mutI i "extend" [d] k σ T1 else .bad
def sMut2 (i j : Nat) (m2 : Str) (as : List (EM D)) : SM := fun σ T => if isOwI i σ then sMut j m2 as (fun r σ1 T1 => mutI i "append" [r] (fun _ σ T => .nx σ T) σ1 T1) σ T else .bad
def sTg (tg : D → Env → Option Env) (m : EM D) : SM := fun σ T => (m σ T).then_ σ fun d T1 => (match tg d σ with
  | some σ1 => .nx σ1 T1
  | none => .bad)
def sSub (k : Nat) (ix e : EM D) : SM := fun σ T => if isHere k σ then (e σ T).then_ σ fun d T1 => (ix σ T1).then_ σ fun j T2 => setM k j d σ T2 else .bad
def sAug (i : Nat) (op : Operator) (e : EM D) : SM := fun σ T => match σ[i]? with
  | some (.fz d) => (e σ T).then_ σ fun y T1 => (match augD op d y with
    | some z => .nx (σ.set i (.fz z)) T1
    | none => .bad)
  | _ => .bad
def sExp (m : EM (D × Bool)) : SM := fun σ T => (m σ T).then_ σ fun _ T1 => .nx σ T1
def sIf (t : EM Bool) (a b : SM) : SM := fun σ T => (t σ T).then_ σ fun k T1 => if k then a σ T1 else b σ T1
def sFor (tg : D → Env → Option Env) (it : EM (List D)) (body : SM) : SM := fun σ T => (it σ T).then_ σ fun ds T1 => forLoop tg body ds σ T1
def sWh (t : EM Bool) (body : SM) : SM := whileLoop t body loopFuel
def sRaise (EI : Ei) (x : Str) (as : List (EM D)) : SM := fun σ T => (seqL as σ T).then_ σ fun ds T1 => (match EI.mkX x ds with
  | some e => .ex e σ T1
  | none => .bad)
def sFrz (is : List Nat) (m : SM) : SM := fun σ T => m (is.foldl (fun σ i => match σ[i]? with
  | some s => σ.set i (frzS s)
  | none => σ) σ) T
end Mi


set_option Elab.async false
set_option linter.all false
set_option maxRecDepth 100000
/-! MiR: the shallow interpreter evaluated by simp; loops by invariants. -/
namespace Mi
open PySem
section
variable {α β γ : Type}
@[simp] theorem bind_ok (a : α) (T : Sto) (f : α → Sto → Res β) : Res.bind (.ok a T) f = f a T := (rfl)
@[simp] theorem bind_ex (x : Xn) (T : Sto) (f : α → Sto → Res β) : Res.bind (.ex x T) f = .ex x T := (rfl)
@[simp] theorem then_ok (a : α) (T : Sto) (σ : Env) (f : α → Sto → RS) : Res.then_ (.ok a T) σ f = f a T := (rfl)
@[simp] theorem then_ex (x : Xn) (T : Sto) (σ : Env) (f : α → Sto → RS) : Res.then_ (.ex x T) σ f = .ex x σ T := (rfl)
@[simp] theorem seq_nx (σ : Env) (T : Sto) (f : Env → Sto → RS) : RS.seq (.nx σ T) f = f σ T := (rfl)
@[simp] theorem seq_rt (d : D) (b : Bool) (T : Sto) (f : Env → Sto → RS) : RS.seq (.rt d b T) f = .rt d b T := (rfl)
@[simp] theorem seq_ex (x : Xn) (σ : Env) (T : Sto) (f : Env → Sto → RS) : RS.seq (.ex x σ T) f = .ex x σ T := (rfl)
def kap (f : α → EM β) (σ : Env) : α → Sto → Res β := fun a T => f a σ T
@[simp] theorem ev_kap (f : α → EM β) (σ : Env) (a : α) (T : Sto) : kap f σ a T = f a σ T := (rfl)
@[simp] theorem ev_bind (m : EM α) (f : α → EM β) (σ : Env) (T : Sto) : EM.bind m f σ T = Res.bind (m σ T) (kap f σ) := (rfl)
def kas (f : α → SM) (σ : Env) : α → Sto → RS := fun a T => f a σ T
@[simp] theorem ev_kas (f : α → SM) (σ : Env) (a : α) (T : Sto) : kas f σ a T = f a σ T := (rfl)
def thenS (m : EM α) (f : α → SM) : SM := fun σ T => (m σ T).then_ σ fun a T1 => f a σ T1
@[simp] theorem ev_thenS (m : EM α) (f : α → SM) (σ : Env) (T : Sto) : thenS m f σ T = Res.then_ (m σ T) σ (kas f σ) := (rfl)
@[simp] theorem ev_pure (a : α) (σ : Env) (T : Sto) : EM.pure a σ T = .ok a T := (rfl)
@[simp] theorem ev_lift (a : α) (σ : Env) (T : Sto) : EM.lift (some a) σ T = .ok a T := (rfl)
@[simp] theorem ev_V (m : EM (D × Bool)) (σ : Env) (T : Sto) : V m σ T = EM.bind m (fun d => EM.pure d.1) σ T := (rfl)
@[simp] theorem ev_kE (d : D) (σ : Env) (T : Sto) : kE d σ T = .ok (d, false) T := (rfl)
def vGet : Option Sl → Sto → Res (D × Bool)
  | some (.fz d), T => .ok (d, false) T
  | _, _ => .bad
def pGet : Option Sl → Sto → Res D
  | some (.fz d), T => .ok d T
  | some (.ow d), T => .ok d T
  | _, _ => .bad
@[simp] theorem ev_vVar (i : Nat) (σ : Env) (T : Sto) : vVar i σ T = vGet σ[i]? T := by
  unfold vVar vGet
  split <;> simp_all
@[simp] theorem ev_pVar (i : Nat) (σ : Env) (T : Sto) : pVar i σ T = pGet σ[i]? T := by
  unfold pVar pGet
  split <;> simp_all

end
/-! ### expressions -/
section
variable {α β γ : Type} {σ : Env} {T : Sto}
def iteM {α : Type} (k : Bool) (a b : EM α) : EM α := if k then a else b
@[simp] theorem iteM_t (a b : EM α) : iteM true a b = a := (rfl)
@[simp] theorem iteM_f (a b : EM α) : iteM false a b = b := (rfl)
def lcK (tg : D → Env → Option Env) (tst : EM Bool) (el : EM D) (σ : Env) : List D → Sto → Res (D × Bool) := fun items T => (lcLoop tg tst el σ items [] T).bind fun ds T1 => .ok (.lst ds, true) T1
theorem lcK_ok {tg : D → Env → Option Env} {tst : EM Bool} {el : EM D} {items ds : List D} {T1 : Sto} (h : lcLoop tg tst el σ items [] T = .ok ds T1) : lcK tg tst el σ items T = .ok (.lst ds, true) T1 := by
  unfold lcK
  rw [h]
  rfl
@[simp] theorem ev_seqN : seqL [] σ T = .ok [] T := (rfl)
@[simp] theorem ev_seqC (m : EM D) (ms : List (EM D)) : seqL (m :: ms) σ T = EM.bind m (fun d => EM.bind (seqL ms) fun ds => EM.pure (d :: ds)) σ T := (rfl)
@[simp] theorem ev_binE (op : Operator) (a b : EM D) : binE op a b σ T = EM.bind a (fun x => EM.bind b fun y => EM.bind (EM.lift (binD op x y)) fun d => EM.pure (d, isLst d)) σ T := (rfl)
def negM (x : D) : EM (D × Bool) := match x with
  | .int i => EM.pure (.int (-i), false)
  | _ => EM.bad
@[simp] theorem ev_negE (a : EM D) : negE a σ T = EM.bind a negM σ T := (rfl)
@[simp] theorem ev_negM (i : Int) : negM (.int i) σ T = .ok (.int (-i), false) T := (rfl)
@[simp] theorem ev_notE (a : EM D) : notE a σ T = EM.bind a (fun x => EM.bind (EM.lift (truD x)) fun b => EM.pure (.bl (!b), false)) σ T := (rfl)
@[simp] theorem ev_and1 (m : EM D) : andE [m] σ T = EM.bind m (fun d => EM.pure (d, false)) σ T := (rfl)
@[simp] theorem ev_and2 (m m2 : EM D) (ms : List (EM D)) : andE (m :: m2 :: ms) σ T = EM.bind m (fun d => EM.bind (EM.lift (truD d)) fun b => iteM b (andE (m2 :: ms)) (EM.pure (d, false))) σ T := (rfl)
@[simp] theorem ev_cmpE (op : CmpOp) (a b : EM D) : cmpE op a b σ T = EM.bind a (fun x => EM.bind b fun y => EM.lift (cmpD op x y)) σ T := (rfl)
@[simp] theorem ev_chE (op op2 : CmpOp) (a b c : EM D) : chE op op2 a b c σ T = EM.bind a (fun x => EM.bind b fun y => EM.bind (EM.lift (cmpD op x y)) fun k => iteM k (EM.bind c fun z => EM.lift (cmpD op2 y z)) (EM.pure false)) σ T := (rfl)
@[simp] theorem ev_blE (m : EM Bool) : blE m σ T = EM.bind m (fun k => EM.pure (.bl k, false)) σ T := (rfl)
@[simp] theorem ev_ifE (t : EM Bool) (a b : EM (D × Bool)) : ifE t a b σ T = EM.bind t (fun k => iteM k a b) σ T := (rfl)
def tupM (ds : List D) : EM (D × Bool) := if fits ds.length then EM.pure (.tup ds, false) else EM.bad
def lstM (ds : List D) : EM (D × Bool) := if fits ds.length then EM.pure (.lst ds, true) else EM.bad
@[simp] theorem ev_tupE (ms : List (EM D)) : tupE ms σ T = EM.bind (seqL ms) tupM σ T := (rfl)
@[simp] theorem ev_lstE (ms : List (EM D)) : lstE ms σ T = EM.bind (seqL ms) lstM σ T := (rfl)
@[simp] theorem ev_tupM {ds : List D} (h : ds.length ≤ 16777216) : tupM ds σ T = .ok (.tup ds, false) T := by
  unfold tupM fits
  rw [if_pos (decide_eq_true h)]
  rfl
@[simp] theorem ev_lstM {ds : List D} (h : ds.length ≤ 16777216) : lstM ds σ T = .ok (.lst ds, true) T := by
  unfold lstM fits
  rw [if_pos (decide_eq_true h)]
  rfl
@[simp] theorem ev_oN : oN σ T = .ok none T := (rfl)
def oSM (d : D) : EM (Option Int) := match d with
  | .int i => EM.pure (some i)
  | _ => EM.bad
@[simp] theorem ev_oS (m : EM D) : oS m σ T = EM.bind m oSM σ T := (rfl)
@[simp] theorem ev_oSM (i : Int) : oSM (.int i) σ T = .ok (some i) T := (rfl)
@[simp] theorem ev_slE (a : EM D) (l h : EM (Option Int)) : slE a l h σ T = EM.bind a (fun x => EM.bind l fun l => EM.bind h fun h => EM.bind (EM.lift (sliceD x l h)) fun d => EM.pure (d, isLst d)) σ T := (rfl)
@[simp] theorem ev_ixE (a i : EM D) : ixE a i σ T = EM.bind a (fun x => EM.bind i fun j => EM.bind (itemM x j) fun d => EM.pure (d, false)) σ T := (rfl)
@[simp] theorem ev_callC (C : CallT) (f : Str) (ms : List (EM D)) : callC C f ms σ T = Res.bind (seqL ms σ T) (C f) := (rfl)
def isiM (t : Str) (d : D) : EM (D × Bool) := if noObj d then EM.bind (EM.lift (isiD t d)) fun b => EM.pure (.bl b, false) else EM.bad
@[simp] theorem ev_isiE (t : Str) (a : EM D) : isiE t a σ T = EM.bind a (isiM t) σ T := (rfl)
def D.isTup : D → Bool
  | .tup _ => true
  | _ => false
def D.isInt : D → Bool
  | .int _ => true
  | .bl _ => true
  | _ => false
def D.isBl : D → Bool
  | .bl _ => true
  | _ => false
theorem isi_of {t : Str} {d : D} {b : Bool} (hn : noObj d = true) (h : isiD t d = some b) : isiM t d σ T = .ok (.bl b, false) T := by
  unfold isiM
  rw [if_pos hn, h]
  rfl
@[simp] theorem ev_isiTup (d : D) (hn : noObj d = true) : isiM "tuple" d σ T = .ok (.bl d.isTup, false) T := isi_of hn (by cases d <;> rfl)
@[simp] theorem ev_isiInt (d : D) (hn : noObj d = true) : isiM "int" d σ T = .ok (.bl d.isInt, false) T := isi_of hn (by cases d <;> rfl)
@[simp] theorem ev_isiBl (d : D) (hn : noObj d = true) : isiM "bool" d σ T = .ok (.bl d.isBl, false) T := isi_of hn (by cases d <;> rfl)
@[simp] theorem ev_lenE (a : EM D) : lenE a σ T = EM.bind a (fun d => EM.bind (lenM d) fun k => EM.pure (k, false)) σ T := (rfl)
@[simp] theorem ev_lenT (ds : List D) : lenM (.tup ds) σ T = .ok (.int ds.length) T := (rfl)
@[simp] theorem ev_lenL (ds : List D) : lenM (.lst ds) σ T = .ok (.int ds.length) T := (rfl)
@[simp] theorem ev_listE (a : EM D) : listE a σ T = EM.bind a listM σ T := (rfl)
@[simp] theorem ev_listL (ds : List D) : listM (.lst ds) σ T = .ok (.lst ds, true) T := (rfl)
@[simp] theorem ev_listT (ds : List D) : listM (.tup ds) σ T = .ok (.lst ds, true) T := (rfl)
def lrgM (d : D) : EM (D × Bool) := match d with
  | .int j => if small62 j && decide (j ≤ 16777216) then EM.pure (.lst (rangeD 0 j.toNat), true) else EM.bad
  | _ => EM.bad
@[simp] theorem ev_listRgE (a : EM D) : listRgE a σ T = EM.bind a lrgM σ T := (rfl)
@[simp] theorem ev_lrgM (n : Nat) (h : n ≤ 16777216) : lrgM (.int n) σ T = .ok (.lst (rangeD 0 n), true) T := by
  unfold lrgM
  have e : (small62 (n : Int) && decide ((n : Int) ≤ 16777216)) = true := by
    unfold small62
    simp
    omega
  simp only [e, if_true, Int.toNat_natCast]
  rfl
theorem ev_lrgI {i : Int} (h0 : 0 ≤ i) (h : i ≤ 16777216) : lrgM (.int i) σ T = .ok (.lst (rangeD 0 i.toNat), true) T := by
  obtain ⟨n, rfl⟩ := Int.eq_ofNat_of_zero_le h0
  exact ev_lrgM n (by omega)
@[simp] theorem ev_bltE (f : Str) (a : EM D) : bltE f a σ T = EM.bind a (fun d => EM.lift (bltD f [d])) σ T := (rfl)
@[simp] theorem blt_abs (i : Int) : bltD "abs" [.int i] = some (.int (if i < 0 then -i else i), false) := (rfl)
@[simp] theorem blt_int (i : Int) : bltD "int" [.int i] = some (.int i, false) := (rfl)
@[simp] theorem blt_tupL (ds : List D) : bltD "tuple" [.lst ds] = some (.tup ds, false) := (rfl)
@[simp] theorem blt_tupT (ds : List D) : bltD "tuple" [.tup ds] = some (.tup ds, false) := (rfl)
theorem boolsOf_map : ∀ bs : List Bool, boolsOf (bs.map .bl) = some bs
  | [] => rfl
  | b :: bs => by
    show (boolsOf (bs.map .bl)).map (b :: ·) = _
    rw [boolsOf_map bs]
    rfl
@[simp] theorem blt_all (bs : List Bool) : bltD "all" [.lst (bs.map .bl)] = some (.bl (bs.all id), false) := by
  show (boolsOf (bs.map .bl)).map _ = _
  rw [boolsOf_map]
  rfl
@[simp] theorem blt_any (bs : List Bool) : bltD "any" [.lst (bs.map .bl)] = some (.bl (bs.any id), false) := by
  show (boolsOf (bs.map .bl)).map _ = _
  rw [boolsOf_map]
  rfl
/-! what is walked -/
def r1M (d : D) : EM (List D) := match d with
  | .int j => if small62 j then EM.pure (rangeD 0 j.toNat) else EM.bad
  | _ => EM.bad
@[simp] theorem ev_itR1 (a : EM D) : itR1 a σ T = EM.bind a r1M σ T := (rfl)
@[simp] theorem ev_r1M (n : Nat) (h : n ≤ 16777216) : r1M (.int n) σ T = .ok (rangeD 0 n) T := by
  unfold r1M
  have e : small62 (n : Int) = true := by
    unfold small62
    simp
    omega
  simp only [e, if_true, Int.toNat_natCast]
  rfl
theorem ev_r1I {i : Int} (h0 : 0 ≤ i) (h : i ≤ 16777216) : r1M (.int i) σ T = .ok (rangeD 0 i.toNat) T := by
  obtain ⟨n, rfl⟩ := Int.eq_ofNat_of_zero_le h0
  exact ev_r1M n (by omega)
@[simp] theorem ev_itX (a : EM D) : itX a σ T = EM.bind a itemsM σ T := (rfl)
@[simp] theorem ev_itemsT (ds : List D) : itemsM (.tup ds) σ T = .ok ds T := (rfl)
@[simp] theorem ev_itemsL (ds : List D) : itemsM (.lst ds) σ T = .ok ds T := (rfl)
@[simp] theorem ev_lcM (tg : D → Env → Option Env) (tst : EM Bool) (el : EM D) (own : List Nat) (it : EM (List D)) : lcM tg tst el own it σ T = Res.bind (it σ T) (lcK tg tst el (wipeE σ own)) := (rfl)
/-! tests -/
@[simp] theorem ev_tAllN : tAllE [] σ T = .ok true T := (rfl)
@[simp] theorem ev_tAllC (m : EM Bool) (ms : List (EM Bool)) : tAllE (m :: ms) σ T = EM.bind m (fun b => iteM b (tAllE ms) (EM.pure false)) σ T := (rfl)
@[simp] theorem ev_tAnyN : tAnyE [] σ T = .ok false T := (rfl)
@[simp] theorem ev_tAnyC (m : EM Bool) (ms : List (EM Bool)) : tAnyE (m :: ms) σ T = EM.bind m (fun b => iteM b (EM.pure true) (tAnyE ms)) σ T := (rfl)
@[simp] theorem ev_tNotE (m : EM Bool) : tNotE m σ T = EM.bind m (fun b => EM.pure (!b)) σ T := (rfl)
@[simp] theorem ev_truE (a : EM D) : truE a σ T = EM.bind a (fun x => EM.lift (truD x)) σ T := (rfl)
@[simp] theorem ev_yesE : yesE σ T = .ok true T := (rfl)
@[simp] theorem tru_bl (b : Bool) : truD (.bl b) = some b := (rfl)
@[simp] theorem tru_int (i : Int) : truD (.int i) = some (i != 0) := (rfl)
@[simp] theorem tru_tup (ds : List D) : truD (.tup ds) = some (!ds.isEmpty) := (rfl)
@[simp] theorem tru_lst (ds : List D) : truD (.lst ds) = some (!ds.isEmpty) := (rfl)
@[simp] theorem cmp_eqI (i j : Int) : cmpD .Eq (.int i) (.int j) = some (decide (i = j)) := (rfl)
@[simp] theorem cmp_neI (i j : Int) : cmpD .NotEq (.int i) (.int j) = some (!decide (i = j)) := (rfl)
@[simp] theorem cmp_ltI (i j : Int) : cmpD .Lt (.int i) (.int j) = some (decide (i < j)) := (rfl)
@[simp] theorem cmp_leI (i j : Int) : cmpD .LtE (.int i) (.int j) = some (decide (i ≤ j)) := (rfl)
@[simp] theorem cmp_gtI (i j : Int) : cmpD .Gt (.int i) (.int j) = some (decide (j < i)) := (rfl)
@[simp] theorem cmp_geI (i j : Int) : cmpD .GtE (.int i) (.int j) = some (decide (j ≤ i)) := (rfl)
@[simp] theorem cmp_isN (d : D) : cmpD .Is d .non = some (match d with | .non => true | _ => false) := by cases d <;> rfl
@[simp] theorem cmp_isntB (a b : Bool) : cmpD .IsNot (.bl a) (.bl b) = some (!decide (a = b)) := (rfl)
@[simp] theorem bin_addI (i j : Int) : binD .Add (.int i) (.int j) = some (.int (i + j)) := (rfl)
@[simp] theorem bin_subI (i j : Int) : binD .Sub (.int i) (.int j) = some (.int (i - j)) := (rfl)
@[simp] theorem bin_modI (i j : Int) (h : 0 < j) : binD .Mod (.int i) (.int j) = some (.int (i % j)) := by
  show (if decide (0 < j) then _ else _) = _
  rw [if_pos (decide_eq_true h)]
theorem log2_lt {n k : Nat} (h : n < 2 ^ k) (hk : 0 < k) : n.log2 < k := by
  by_cases h0 : n = 0
  · subst h0
    simpa using hk
  · exact (Nat.log2_lt h0).mpr h
theorem small_log {i : Int} (h : i.natAbs < 2 ^ 100) : i.natAbs.log2 < 100 := log2_lt h (by decide)
@[simp] theorem bin_divI (i j : Int) (h : 0 < j) (h2 : j < 1267650600228229401496703205376) : binD .FloorDiv (.int i) (.int j) = some (.int (i / j)) := by
  show (if decide (0 < j) && decide (j.natAbs.log2 < 9000) then _ else _) = _
  have e : j.natAbs.log2 < 9000 := Nat.lt_trans (small_log (i := j) (by omega)) (by decide)
  simp only [h, e, decide_true, Bool.and_self, if_true]
@[simp] theorem bin_mulI (i j : Int) (h0 : 0 ≤ i) (h : i < 1267650600228229401496703205376) (h2 : 0 ≤ j) (h3 : j < 1267650600228229401496703205376) : binD .Mult (.int i) (.int j) = some (.int (i * j)) := by
  show (if decide (i.natAbs.log2 + j.natAbs.log2 < 1000000) then _ else _) = _
  have e1 := small_log (i := i) (by omega)
  have e2 := small_log (i := j) (by omega)
  rw [if_pos (decide_eq_true (by omega))]
@[simp] theorem isLst_int (i : Int) : isLst (.int i) = false := (rfl)
@[simp] theorem isLst_tup (ds : List D) : isLst (.tup ds) = false := (rfl)
@[simp] theorem isLst_lst (ds : List D) : isLst (.lst ds) = true := (rfl)
@[simp] theorem noObj_int (i : Int) : noObj (.int i) = true := (rfl)
@[simp] theorem noObj_tup (ds : List D) : noObj (.tup ds) = true := (rfl)
@[simp] theorem noObj_lst (ds : List D) : noObj (.lst ds) = true := (rfl)
@[simp] theorem noObj_bl (b : Bool) : noObj (.bl b) = true := (rfl)
@[simp] theorem noObj_non : noObj .non = true := (rfl)
@[simp] theorem noObj_str (s : Str) : noObj (.str s) = true := (rfl)
@[simp] theorem isTup_tup (ds : List D) : (D.tup ds).isTup = true := (rfl)
@[simp] theorem isInt_int (i : Int) : (D.int i).isInt = true := (rfl)
@[simp] theorem isBl_int (i : Int) : (D.int i).isBl = false := (rfl)
@[simp] theorem isBl_bl (b : Bool) : (D.bl b).isBl = true := (rfl)
/-! items -/
theorem ixD_nat {n i : Nat} (h : i < n) : ixD n (i : Int) = some i := by
  unfold ixD
  rw [if_pos (by omega), if_pos (by omega)]
  simp
theorem itemT {ds : List D} {i : Nat} {d : D} (h : ds[i]? = some d) : itemM (.tup ds) (.int (i : Int)) σ T = .ok d T := by
  have hl : i < ds.length := (List.getElem?_eq_some_iff.mp h).1
  show (match (ixD ds.length (i : Int)).bind (fun j => ds[j]?) with
    | some d => Res.ok d T
    | none => .bad) = _
  rw [ixD_nat hl]
  show (match ds[i]? with
    | some d => Res.ok d T
    | none => .bad) = _
  rw [h]
theorem itemL {ds : List D} {i : Nat} {d : D} (h : ds[i]? = some d) : itemM (.lst ds) (.int (i : Int)) σ T = .ok d T := by
  have hl : i < ds.length := (List.getElem?_eq_some_iff.mp h).1
  show (match (ixD ds.length (i : Int)).bind (fun j => ds[j]?) with
    | some d => Res.ok d T
    | none => .bad) = _
  rw [ixD_nat hl]
  show (match ds[i]? with
    | some d => Res.ok d T
    | none => .bad) = _
  rw [h]
theorem itemTI {ds : List D} {i : Int} {d : D} (h0 : 0 ≤ i) (h : ds[i.toNat]? = some d) : itemM (.tup ds) (.int i) σ T = .ok d T := by
  obtain ⟨n, rfl⟩ := Int.eq_ofNat_of_zero_le h0
  exact itemT (by simpa using h)
theorem itemLI {ds : List D} {i : Int} {d : D} (h0 : 0 ≤ i) (h : ds[i.toNat]? = some d) : itemM (.lst ds) (.int i) σ T = .ok d T := by
  obtain ⟨n, rfl⟩ := Int.eq_ofNat_of_zero_le h0
  exact itemL (by simpa using h)
@[simp] theorem itemT0 (a : D) (ds : List D) : itemM (.tup (a :: ds)) (.int 0) σ T = .ok a T := itemT (i := 0) rfl
@[simp] theorem itemT1 (a b : D) (ds : List D) : itemM (.tup (a :: b :: ds)) (.int 1) σ T = .ok b T := itemT (i := 1) rfl
@[simp] theorem itemL0 (a : D) (ds : List D) : itemM (.lst (a :: ds)) (.int 0) σ T = .ok a T := itemL (i := 0) rfl
@[simp] theorem itemL1 (a b : D) (ds : List D) : itemM (.lst (a :: b :: ds)) (.int 1) σ T = .ok b T := itemL (i := 1) rfl
def itemO (o : Option Ob) (i : D) : EM D := fun _ T => match o with
  | some (.lst ds) => (match itemD (.lst ds) i with
      | some d => .ok d T
      | none => .bad)
  | _ => .bad
@[simp] theorem ev_itemO (n : Nat) (i : D) : itemM (.obj n) i σ T = itemO T[n]? i σ T := (rfl)
@[simp] theorem ev_itemOL (ds : List D) (i : D) : itemO (some (.lst ds)) i σ T = itemM (.lst ds) i σ T := by
  unfold itemO itemM
  rfl
end
/-! ### statements -/
section
variable {σ : Env} {T : Sto}
def iteS (k : Bool) (a b : SM) : SM := if k then a else b
@[simp] theorem iteS_t (a b : SM) : iteS true a b = a := (rfl)
@[simp] theorem iteS_f (a b : SM) : iteS false a b = b := (rfl)
def badS : SM := fun _ _ => .bad
theorem iteS_app (k : Bool) (a b : SM) : iteS k a b σ T = if k = true then a σ T else b σ T := by cases k <;> rfl
def raiseK (o : Option Xn) : SM := fun σ T => match o with
  | some e => .ex e σ T
  | none => .bad
@[simp] theorem raiseK_some (e : Xn) : raiseK (some e) σ T = .ex e σ T := (rfl)
@[simp] theorem ev_sN : sSeq [] σ T = .nx σ T := (rfl)
@[simp] theorem ev_sC (m : SM) (ms : List SM) : sSeq (m :: ms) σ T = (m σ T).seq (sSeq ms) := (rfl)
@[simp] theorem ev_sNx : sNx σ T = .nx σ T := (rfl)
@[simp] theorem ev_sRetN : sRetN σ T = .rt .non false T := (rfl)
def rvG : Option Sl → Sto → RS
  | some (.fz d), T => .rt d false T
  | some (.ow d), T => .rt d true T
  | _, _ => .bad
@[simp] theorem ev_sRetV (i : Nat) : sRetV i σ T = rvG σ[i]? T := by
  unfold sRetV rvG
  split <;> simp_all
@[simp] theorem rvG_fz (d : D) : rvG (some (.fz d)) T = .rt d false T := (rfl)
@[simp] theorem rvG_ow (d : D) : rvG (some (.ow d)) T = .rt d true T := (rfl)
@[simp] theorem vGet_fz (d : D) : vGet (some (.fz d)) T = .ok (d, false) T := (rfl)
@[simp] theorem pGet_fz (d : D) : pGet (some (.fz d)) T = .ok d T := (rfl)
@[simp] theorem pGet_ow (d : D) : pGet (some (.ow d)) T = .ok d T := (rfl)
@[simp] theorem ev_sRet (m : EM (D × Bool)) : sRet m σ T = thenS m (fun d _ T => .rt d.1 d.2 T) σ T := (rfl)
@[simp] theorem ev_putF (i : Nat) (d : D) : putI i d false σ T = .nx (σ.set i (.fz d)) T := (rfl)
@[simp] theorem ev_putO (i : Nat) (d : D) : putI i d true σ T = .nx (σ.set i (.ow d)) T := (rfl)
@[simp] theorem ev_putR (i : Nat) (ds : List D) : putR i (.lst ds) true σ T = .nx (σ.set i (.fz (.obj T.length))) (T ++ [.lst ds]) := (rfl)
@[simp] theorem ev_sSet (i : Nat) (m : EM (D × Bool)) : sSet i m σ T = thenS m (fun d => putI i d.1 d.2) σ T := (rfl)
@[simp] theorem ev_sSetR (i : Nat) (m : EM (D × Bool)) : sSetR i m σ T = thenS m (fun d => putR i d.1 d.2) σ T := (rfl)
def owB : Option Sl → Bool
  | some (.ow (.lst _)) => true
  | _ => false
theorem isOwI_ev (i : Nat) : isOwI i σ = owB σ[i]? := by
  unfold isOwI owB
  rfl
def mutG (o : Option Sl) (i : Nat) (m : Str) (ds : List D) (k : D → SM) : SM := fun σ T => match o with
  | some (.ow (.lst xs)) => (match mutD m xs ds with
    | some (ys, r) => k r (σ.set i (.ow (.lst ys))) T
    | none => .bad)
  | _ => .bad
@[simp] theorem ev_mutI (i : Nat) (m : Str) (ds : List D) (k : D → SM) : mutI i m ds k σ T = mutG σ[i]? i m ds k σ T := (rfl)
theorem mut_app {xs : List D} (h : xs.length < 16777216) (d : D) : mutD "append" xs [d] = some (xs ++ [d], .non) := by
  have e : ∀ r, mutD "append" xs [d] = r → (if decide (xs.length < 16777216) = true then some (xs ++ [d], D.non) else none) = r := fun r h => h
  have e := e _ rfl
  rw [if_pos (decide_eq_true h)] at e
  exact e.symm
@[simp] theorem mutG_app (xs : List D) (h : xs.length < 16777216) (i : Nat) (d : D) (k : D → SM) : mutG (some (.ow (.lst xs))) i "append" [d] k σ T = k .non (σ.set i (.ow (.lst (xs ++ [d])))) T := by
  unfold mutG
  simp only [mut_app h]
theorem mut_pop {xs : List D} {n : Nat} {d : D} (hs : n < 4611686018427387904) (h : xs[n]? = some d) : mutD "pop" xs [.int (n : Int)] = some (xs.eraseIdx n, d) := by
  have hl : n < xs.length := (List.getElem?_eq_some_iff.mp h).1
  have e2 : small62 (n : Int) = true := by
    unfold small62
    simp
    omega
  unfold mutD
  rw [if_neg (by decide), if_neg (by decide), if_pos rfl]
  simp only [e2, if_true, ixD_nat hl, Option.bind, h, Option.map]
def mutG2 (i : Nat) (k : D → SM) (o : Option (List D × D)) : SM := fun σ T => match o with
    | some (ys, r) => k r (σ.set i (.ow (.lst ys))) T
    | none => .bad
theorem mutG_eq (xs : List D) (i : Nat) (m : Str) (ds : List D) (k : D → SM) : mutG (some (.ow (.lst xs))) i m ds k σ T = mutG2 i k (mutD m xs ds) σ T := rfl
theorem mutG_popN {xs : List D} {n : Nat} {d : D} (hs : n < 4611686018427387904) (h : xs[n]? = some d) (i : Nat) (k : D → SM) : mutG (some (.ow (.lst xs))) i "pop" [.int (n : Int)] k σ T = k d (σ.set i (.ow (.lst (xs.eraseIdx n)))) T := by
  rw [mutG_eq, mut_pop hs h]
  rfl
@[simp] theorem ev_sMut (i : Nat) (m : Str) (as : List (EM D)) (k : D → SM) : sMut i m as k σ T = iteS (owB σ[i]?) (thenS (seqL as) fun ds => mutI i m ds k) badS σ T := by
  rw [iteS_app, ← isOwI_ev]
  rfl
@[simp] theorem ev_sMut2 (i j : Nat) (m2 : Str) (as : List (EM D)) : sMut2 i j m2 as σ T = iteS (owB σ[i]?) (sMut j m2 as fun r => mutI i "append" [r] fun _ => sNx) badS σ T := by
  rw [iteS_app, ← isOwI_ev]
  rfl
@[simp] theorem owB_lst (xs : List D) : owB (some (.ow (.lst xs))) = true := (rfl)
def hereB : Option Sl → Bool
  | some (.ow _) => true
  | some (.fz _) => true
  | _ => false
@[simp] theorem hereB_ow (d : D) : hereB (some (.ow d)) = true := (rfl)
@[simp] theorem hereB_fz (d : D) : hereB (some (.fz d)) = true := (rfl)
@[simp] theorem ev_sSub (k : Nat) (ix e : EM D) : sSub k ix e σ T = iteS (hereB σ[k]?) (thenS e fun d => thenS ix fun j => setM k j d) badS σ T := by
  rw [iteS_app]
  rfl
def setG (o : Option Sl) (k : Nat) (i d : D) : SM := fun σ T => match o with
    | some (.ow (.lst xs)) => (match i with
      | .int j => (match ixD xs.length j with
        | some p => .nx (σ.set k (.ow (.lst (xs.set p d)))) T
        | none => .bad)
      | _ => .bad)
    | some (.fz (.obj n)) => (match T[n]?, i with
      | some (.lst xs), .int j => (match ixD xs.length j with
        | some p => .nx σ (T.set n (.lst (xs.set p d)))
        | none => .bad)
      | _, _ => .bad)
    | _ => .bad
@[simp] theorem ev_setM (k : Nat) (i d : D) : setM k i d σ T = setG σ[k]? k i d σ T := (rfl)
theorem setG_ow {xs : List D} {k : Nat} {j : Int} {d : D} (h0 : 0 ≤ j) (h : j < xs.length) : setG (some (.ow (.lst xs))) k (.int j) d σ T = .nx (σ.set k (.ow (.lst (xs.set j.toNat d)))) T := by
  obtain ⟨n, rfl⟩ := Int.eq_ofNat_of_zero_le h0
  show (match ixD xs.length (n : Int) with
        | some p => RS.nx (σ.set k (.ow (.lst (xs.set p d)))) T
        | none => .bad) = _
  rw [ixD_nat (by omega)]
  simp
theorem setG_obj {xs : List D} {k n : Nat} {j : Int} {d : D} (hT : T[n]? = some (.lst xs)) (h0 : 0 ≤ j) (h : j < xs.length) : setG (some (.fz (.obj n))) k (.int j) d σ T = .nx σ (T.set n (.lst (xs.set j.toNat d))) := by
  obtain ⟨m, rfl⟩ := Int.eq_ofNat_of_zero_le h0
  show (match T[n]?, D.int (m : Int) with
      | some (.lst xs), .int j => (match ixD xs.length j with
        | some p => RS.nx σ (T.set n (.lst (xs.set p d)))
        | none => .bad)
      | _, _ => .bad) = _
  rw [hT]
  show (match ixD xs.length (m : Int) with
        | some p => RS.nx σ (T.set n (.lst (xs.set p d)))
        | none => .bad) = _
  rw [ixD_nat (by omega)]
  simp
@[simp] theorem ev_sExp (m : EM (D × Bool)) : sExp m σ T = thenS m (fun _ => sNx) σ T := (rfl)
@[simp] theorem ev_sIf (t : EM Bool) (a b : SM) : sIf t a b σ T = thenS t (fun k => iteS k a b) σ T := by
  show (t σ T).then_ σ _ = (t σ T).then_ σ _
  congr 1
  funext k T1
  cases k <;> rfl
@[simp] theorem ev_sFor (tg : D → Env → Option Env) (it : EM (List D)) (body : SM) : sFor tg it body σ T = thenS it (forLoop tg body) σ T := (rfl)
@[simp] theorem ev_sRaise (EI : Ei) (x : Str) (as : List (EM D)) : sRaise EI x as σ T = thenS (seqL as) (fun ds => raiseK (EI.mkX x ds)) σ T := (rfl)
@[simp] theorem ev_tgN (i : Nat) (d : D) : tgN i d σ = some (σ.set i (.fz d)) := (rfl)
end
/-! ### loops -/
section
/-- a for loop that ends, by an invariant -/
theorem for_inv {tg : D → Env → Option Env} {body : SM} (I : List D → Env → Sto → Prop) (step : ∀ d ds σ T, I (d :: ds) σ T → ∃ σ1 σ2 T2, tg d σ = some σ1 ∧ body σ1 T = .nx σ2 T2 ∧ I ds σ2 T2) :
    ∀ ds σ T, I ds σ T → ∃ σ2 T2, forLoop tg body ds σ T = .nx σ2 T2 ∧ I [] σ2 T2
  | [], σ, T, h => ⟨σ, T, rfl, h⟩
  | d :: ds, σ, T, h => by
    obtain ⟨σ1, σ2, T2, e1, e2, h2⟩ := step d ds σ T h
    obtain ⟨σ3, T3, e3, h3⟩ := for_inv I step ds σ2 T2 h2
    refine ⟨σ3, T3, ?_, h3⟩
    unfold forLoop
    rw [e1]
    simp only [e2]
    exact e3
theorem for_then {tg : D → Env → Option Env} {body : SM} {ds : List D} {σ : Env} {T : Sto} {f : Env → Sto → RS} {P : RS → Prop} (I : List D → Env → Sto → Prop) (step : ∀ d ds σ T, I (d :: ds) σ T → ∃ σ1 σ2 T2, tg d σ = some σ1 ∧ body σ1 T = .nx σ2 T2 ∧ I ds σ2 T2)
    (h : I ds σ T) (k : ∀ σ2 T2, I [] σ2 T2 → P (f σ2 T2)) : P ((forLoop tg body ds σ T).seq f) := by
  obtain ⟨σ2, T2, e, h2⟩ := for_inv I step ds σ T h
  rw [e]
  exact k σ2 T2 h2
/-- a for loop that may return -/
theorem for_ret {tg : D → Env → Option Env} {body : SM} (I : List D → Env → Sto → Prop) (P : RS → Prop) (step : ∀ d ds σ T, I (d :: ds) σ T → ∃ σ1, tg d σ = some σ1 ∧ ((∃ σ2 T2, body σ1 T = .nx σ2 T2 ∧ I ds σ2 T2) ∨ (∃ d b T2, body σ1 T = .rt d b T2 ∧ P (.rt d b T2))))
    (fin : ∀ σ T, I [] σ T → P (.nx σ T)) : ∀ ds σ T, I ds σ T → P (forLoop tg body ds σ T)
  | [], σ, T, h => fin σ T h
  | d :: ds, σ, T, h => by
    obtain ⟨σ1, e1, q⟩ := step d ds σ T h
    unfold forLoop
    rw [e1]
    rcases q with ⟨σ2, T2, e2, h2⟩ | ⟨d', b, T2, e2, h2⟩
    · simp only [e2]
      exact for_ret I P step fin ds σ2 T2 h2
    · simp only [e2]
      exact h2
/-- a comprehension whose turns are told: a filter and a map -/
theorem lc_map {tg : D → Env → Option Env} {tst : EM Bool} {el : EM D} {σ : Env} {T : Sto} (p : D → Bool) (f : D → D) :
    ∀ (ds acc : List D), acc.length + ds.length < 16777216 → (∀ d ∈ ds, ∃ σ1, tg d σ = some σ1 ∧ tst σ1 T = .ok (p d) T ∧ (p d = true → el σ1 T = .ok (f d) T)) → lcLoop tg tst el σ ds acc T = .ok (acc ++ (ds.filter p).map f) T
  | [], acc, _, _ => by
    unfold lcLoop
    simp
  | d :: ds, acc, hl, h => by
    obtain ⟨σ1, e1, e2, e3⟩ := h d List.mem_cons_self
    simp only [List.length_cons] at hl
    unfold lcLoop
    rw [e1]
    simp only [e2, Res.noex]
    show (if p d = true then _ else _) = _
    cases hp : p d with
    | true =>
      rw [if_pos rfl]
      simp only [e3 hp]
      show (if decide (acc.length < 16777216) then lcLoop tg tst el σ ds (acc ++ [f d]) T else .bad) = _
      rw [if_pos (decide_eq_true (by omega)), lc_map p f ds (acc ++ [f d]) (by simp; omega) fun d' hd => h d' (List.mem_cons_of_mem _ hd)]
      simp [hp]
    | false =>
      rw [if_neg (by decide), lc_map p f ds acc (by omega) fun d' hd => h d' (List.mem_cons_of_mem _ hd)]
      simp [hp]
theorem lc_mapY {tg : D → Env → Option Env} {el : EM D} {σ : Env} {T : Sto} (f : D → D) (ds : List D) (hl : ds.length < 16777216) (h : ∀ d ∈ ds, ∃ σ1, tg d σ = some σ1 ∧ el σ1 T = .ok (f d) T) : lcLoop tg yesE el σ ds [] T = .ok (ds.map f) T := by
  rw [lc_map (fun _ => true) f ds [] (by simpa using hl) fun d hd => by
    obtain ⟨σ1, e1, e2⟩ := h d hd
    exact ⟨σ1, e1, rfl, fun _ => e2⟩]
  rw [List.filter_eq_self.mpr fun _ _ => rfl]
  rfl
/-- a comprehension with an invariant of the store -/
theorem lc_inv {tg : D → Env → Option Env} {el : EM D} {σ : Env} (I : Sto → Prop) (Y : D → Prop) : ∀ (ds acc : List D) (T : Sto), acc.length + ds.length < 16777216 → I T → (∀ d ∈ ds, ∀ T, I T → ∃ σ1 y T1, tg d σ = some σ1 ∧ el σ1 T = .ok y T1 ∧ Y y ∧ I T1) →
    ∃ ys T1, lcLoop tg yesE el σ ds acc T = .ok (acc ++ ys) T1 ∧ ys.length = ds.length ∧ (∀ y ∈ ys, Y y) ∧ I T1
  | [], acc, T, _, hI, _ => ⟨[], T, by unfold lcLoop; simp, rfl, by simp, hI⟩
  | d :: ds, acc, T, hl, hI, h => by
    obtain ⟨σ1, y, T1, e1, e2, hy, hI1⟩ := h d List.mem_cons_self T hI
    simp only [List.length_cons] at hl
    obtain ⟨ys, T2, e3, hl2, hY, hI2⟩ := lc_inv I Y ds (acc ++ [y]) T1 (by simp; omega) hI1 fun d' hd => h d' (List.mem_cons_of_mem _ hd)
    refine ⟨y :: ys, T2, ?_, by simp [hl2], fun z hz => ?_, hI2⟩
    · unfold lcLoop
      rw [e1]
      simp only [ev_yesE, Res.noex]
      show (el σ1 T).noex.bind _ = _
      rw [e2]
      show (if decide (acc.length < 16777216) then lcLoop tg yesE el σ ds (acc ++ [y]) T1 else .bad) = _
      rw [if_pos (decide_eq_true (by omega)), e3]
      simp
    · rcases List.mem_cons.mp hz with rfl | hz
      · exact hy
      · exact hY z hz
end
/-! ### slices -/
theorem cut_from {α : Type} (xs : List α) (k : Nat) : cutL xs (some (k : Int)) none = xs.drop k := by
  unfold cutL
  rw [HT.sIx_nat, HT.sIx_none]
  by_cases h : k ≤ xs.length
  · rw [Nat.min_eq_left h]
    exact List.take_of_length_le (by rw [List.length_drop]; exact Nat.le_refl _)
  · rw [Nat.min_eq_right (by omega), List.drop_eq_nil_of_le (Nat.le_refl _), List.drop_eq_nil_of_le (by omega)]
    simp
theorem cut_to {α : Type} (xs : List α) (k : Nat) : cutL xs none (some (k : Int)) = xs.take k := by
  unfold cutL
  rw [HT.sIx_nat, HT.sIx_none]
  by_cases h : k ≤ xs.length
  · rw [Nat.min_eq_left h]
    simp
  · rw [Nat.min_eq_right (by omega)]
    simp [List.take_of_length_le (show xs.length ≤ k by omega)]
theorem cut_fromI {α : Type} (xs : List α) {i : Int} (h : 0 ≤ i) : cutL xs (some i) none = xs.drop i.toNat := by
  obtain ⟨k, rfl⟩ := Int.eq_ofNat_of_zero_le h
  rw [cut_from]
  rfl
theorem cut_toI {α : Type} (xs : List α) {i : Int} (h : 0 ≤ i) : cutL xs none (some i) = xs.take i.toNat := by
  obtain ⟨k, rfl⟩ := Int.eq_ofNat_of_zero_le h
  rw [cut_to]
  rfl
@[simp] theorem sl_tup (xs : List D) (lo hi : Option Int) : sliceD (.tup xs) lo hi = some (.tup (cutL xs lo hi)) := (rfl)
@[simp] theorem sl_lst (xs : List D) (lo hi : Option Int) : sliceD (.lst xs) lo hi = some (.lst (cutL xs lo hi)) := (rfl)
@[simp] theorem wipe_n (σ : Env) : wipeE σ [] = σ := (rfl)
@[simp] theorem wipe_c (σ : Env) (v : Nat) (vs : List Nat) : wipeE σ (v :: vs) = (wipeE σ vs).set v .no := (rfl)
def frz1 (o : Option Sl) (i : Nat) (σ : Env) : Env := match o with
  | some s => σ.set i (frzS s)
  | none => σ
def frzL : List Nat → Env → Env
  | [], σ => σ
  | i :: is, σ => frzL is (frz1 σ[i]? i σ)
theorem frzL_eq : ∀ (is : List Nat) (σ : Env), is.foldl (fun σ i => match σ[i]? with
  | some s => σ.set i (frzS s)
  | none => σ) σ = frzL is σ
  | [], σ => rfl
  | i :: is, σ => by
    rw [List.foldl_cons, frzL_eq is]
    rfl
@[simp] theorem ev_sFrz (is : List Nat) (m : SM) (σ : Env) (T : Sto) : sFrz is m σ T = m (frzL is σ) T := by
  show m (is.foldl _ σ) T = _
  exact congrArg (fun z => m z T) (frzL_eq is σ)
@[simp] theorem frzL_n (σ : Env) : frzL [] σ = σ := (rfl)
@[simp] theorem frzL_c (i : Nat) (is : List Nat) (σ : Env) : frzL (i :: is) σ = frzL is (frz1 σ[i]? i σ) := (rfl)
@[simp] theorem frz1_ow (d : D) (i : Nat) (σ : Env) : frz1 (some (.ow d)) i σ = σ.set i (.fz d) := (rfl)
@[simp] theorem frz1_fz (d : D) (i : Nat) (σ : Env) : frz1 (some (.fz d)) i σ = σ.set i (.fz d) := (rfl)
/-! ### while -/
section
variable {c : EM Bool} {body : SM} {n : Nat} {σ σ2 : Env} {T T1 T2 : Sto}
theorem while_f (h : c σ T = .ok false T1) : whileLoop c body (n + 1) σ T = .nx σ T1 := by
  unfold whileLoop
  rw [h]
  rfl
theorem while_t (h : c σ T = .ok true T1) (hb : body σ T1 = .nx σ2 T2) : whileLoop c body (n + 1) σ T = whileLoop c body n σ2 T2 := by
  conv => lhs; unfold whileLoop
  rw [h]
  simp only [then_ok, if_true, hb]
theorem while_x {x : Xn} (h : c σ T = .ok true T1) (hb : body σ T1 = .ex x σ2 T2) : whileLoop c body (n + 1) σ T = .ex x σ2 T2 := by
  unfold whileLoop
  rw [h]
  simp only [then_ok, if_true, hb]
end
end Mi


set_option Elab.async false
set_option linter.all false
set_option maxRecDepth 100000
set_option maxHeartbeats 2000000
/-! MiS: tuples and lists walked while an exception is handled; isinstance of such an exception. -/
namespace PySem
namespace MiH
open PySem.Spec PyProof.Rows HotX
section
variable {prog : Program} {w : World} {A : Around} {E : Value → Shared → Prop} {st : Shared}
theorem hot_other {x1 it : Addr} {h : Heap} {o : Obj} {vs : Array Value} (hot : HotAt A x1 h) (ho : h.get? it = some o) (hd : o.data = .fields vs) (hv : vs[2]? = none) : x1 ≠ it := fun z => by
  obtain ⟨_, o1, v1, g1, d1, c1⟩ := hot
  rw [z, ho] at g1
  cases g1
  rw [hd] at d1
  cases d1
  rw [hv] at c1
  cases c1
/-- behind the last item: the iterator lets its sequence go, StopIteration comes with the handled exception behind it, and is taken -/
theorem tupleEnd {it tp x1 : Addr} {i : Nat} {its : Array Value} {Q : Option Value → Shared → Prop} (hot : HotAt A x1 st.heap) (hit : st.heap.IsTupleIter it tp i) (htp : st.heap.IsTuple tp its) (hx : its[i]? = none)
    (hQ : ∀ h', Heap.ExtBut it st.heap h' → Q none { st with heap := h' }) : wpAny (model prog w) A (pyNext (.ref it)) Q E st := by
  obtain ⟨ob, hob, hcl, hda⟩ := id hit
  obtain ⟨ot, hot2, _, nt, hdt⟩ := htp
  have hne : x1 ≠ it := hot_other hot hob hda rfl
  obtain ⟨hh, o1, v1, g1, d1, c1⟩ := hot
  unfold pyNext
  refine wpAny_bind (wpAny_attempt (wpAny_callSpecial?_slot (name := Str.ofString "__next__") hit.typeIs F.slot_tuple_iterator_next (wpAny_call_entry F.slot_tuple_iterator_next hit.typeIs F.entry_tuple_iterator_next ?_ (F.args_tuple_iterator_next_1 _))))
  show wpAny _ _ (field (.ref it) 0 >>= _) _ _ st
  refine wpAny_bind (wpAny_field hob hda (x := .ref tp) rfl ?_)
  show wpAny _ _ (if (Value.ref tp == Value.none) = true then _ else _) _ _ st
  rw [if_neg (show ¬ ((Value.ref tp == Value.none) = true) from Bool.false_ne_true)]
  show wpAny _ _ (field (.ref it) 1 >>= _) _ _ st
  refine wpAny_bind (wpAny_field hob hda (x := .int i 0) rfl ?_)
  show wpAny _ _ (seqItems? (.ref tp) >>= _) _ _ st
  refine wpAny_bind (wpAny_seqItems hot2 hdt ?_)
  simp only [Int.toNat_natCast, hx]
  refine wpAny_bind (wpAny_rule (wpAny_bind (wpAny_setField hob hda (by simp) ?_)))
  have g2 : ∀ f : Obj → Obj, (st.heap.update it f).get? x1 = some o1 := fun f => (Heap.get?_update_other _ _ hne.symm).trans g1
  show wpAny _ _ (newExc (.type "StopIteration") [] >>= _) _ _ _ ; refine wpAny_bind ?_ ; simp only [newExc, newTuple]
  refine wpAny_bind (wpAny_newObj_type ?_ (by size_fits)) ; refine wpAny_bind (m := firstArgMember _ _) (wpAny_of_eq (a := Value.none) (by first | rfl | (simp only [firstArgMember]; rfl)) ?_)
  refine wpAny_newObj_type ?_ (by size_fits) ; refine raiseNew_hot ⟨hh, o1, v1, Heap.get?_push_of_some _ (Heap.get?_push_of_some _ (g2 _)), d1, c1⟩ (Nat.ne_of_lt (Heap.lt_size (Heap.get?_push_of_some _ (g2 _)))) (Heap.get?_push_size _ rfl) rfl (by first | (simp; done) | (simp; omega) | (simp only [Array.size_append]; simp; omega)) ?_
  refine wpAny_bind (wpAny_isInstance (T := "StopIteration") (b := true) ⟨_, Heap.get?_update_self _ (Heap.get?_push_size _ rfl) rfl, rfl⟩ isSubtype_stop ?_) ; refine wpAny_pure (hQ _ fun b o hb e => ?_)
  have e2 : (st.heap.update it (Obj.mapFields (·.setIfInBounds 0 .none))).get? b = some o := (Heap.get?_update_other _ _ (Ne.symm hb)).trans e
  rw [Heap.get?_update_other _ _ (Nat.ne_of_gt (Heap.lt_size (Heap.get?_push_of_some _ e2)))]
  exact Heap.get?_push_of_some _ (Heap.get?_push_of_some _ e2)
theorem listEnd {it lp x1 : Addr} {i : Nat} {its : Array Value} {Q : Option Value → Shared → Prop} (hot : HotAt A x1 st.heap) (hit : st.heap.IsListIter it lp i) (hlp : st.heap.IsList lp its) (hx : its[i]? = none)
    (hQ : ∀ h', Heap.ExtBut it st.heap h' → Q none { st with heap := h' }) : wpAny (model prog w) A (pyNext (.ref it)) Q E st := by
  obtain ⟨ob, hob, hcl, hda⟩ := id hit
  obtain ⟨ot, hot2, _, nt, hdt⟩ := hlp
  have hne : x1 ≠ it := hot_other hot hob hda rfl
  obtain ⟨hh, o1, v1, g1, d1, c1⟩ := hot
  unfold pyNext
  refine wpAny_bind (wpAny_attempt (wpAny_callSpecial?_slot (name := Str.ofString "__next__") hit.typeIs slot_listiter_next (wpAny_call_entry slot_listiter_next hit.typeIs entry_listiter_next ?_ (args_listiter_next _))))
  show wpAny _ _ (field (.ref it) 0 >>= _) _ _ st
  refine wpAny_bind (wpAny_field hob hda (x := .ref lp) rfl ?_)
  show wpAny _ _ (if (Value.ref lp == Value.none) = true then _ else _) _ _ st
  rw [if_neg (show ¬ ((Value.ref lp == Value.none) = true) from Bool.false_ne_true)]
  show wpAny _ _ (field (.ref it) 1 >>= _) _ _ st
  refine wpAny_bind (wpAny_field hob hda (x := .int i 0) rfl ?_)
  show wpAny _ _ (seqItems? (.ref lp) >>= _) _ _ st
  refine wpAny_bind (wpAny_seqItems hot2 hdt ?_)
  simp only [Int.toNat_natCast, hx]
  refine wpAny_bind (wpAny_rule (wpAny_bind (wpAny_setField hob hda (by simp) ?_)))
  have g2 : ∀ f : Obj → Obj, (st.heap.update it f).get? x1 = some o1 := fun f => (Heap.get?_update_other _ _ hne.symm).trans g1
  show wpAny _ _ (newExc (.type "StopIteration") [] >>= _) _ _ _ ; refine wpAny_bind ?_ ; simp only [newExc, newTuple]
  refine wpAny_bind (wpAny_newObj_type ?_ (by size_fits)) ; refine wpAny_bind (m := firstArgMember _ _) (wpAny_of_eq (a := Value.none) (by first | rfl | (simp only [firstArgMember]; rfl)) ?_)
  refine wpAny_newObj_type ?_ (by size_fits) ; refine raiseNew_hot ⟨hh, o1, v1, Heap.get?_push_of_some _ (Heap.get?_push_of_some _ (g2 _)), d1, c1⟩ (Nat.ne_of_lt (Heap.lt_size (Heap.get?_push_of_some _ (g2 _)))) (Heap.get?_push_size _ rfl) rfl (by first | (simp; done) | (simp; omega) | (simp only [Array.size_append]; simp; omega)) ?_
  refine wpAny_bind (wpAny_isInstance (T := "StopIteration") (b := true) ⟨_, Heap.get?_update_self _ (Heap.get?_push_size _ rfl) rfl, rfl⟩ isSubtype_stop ?_) ; refine wpAny_pure (hQ _ fun b o hb e => ?_)
  have e2 : (st.heap.update it (Obj.mapFields (·.setIfInBounds 0 .none))).get? b = some o := (Heap.get?_update_other _ _ (Ne.symm hb)).trans e
  rw [Heap.get?_update_other _ _ (Nat.ne_of_gt (Heap.lt_size (Heap.get?_push_of_some _ e2)))]
  exact Heap.get?_push_of_some _ (Heap.get?_push_of_some _ e2)
/-- a list walked there -/
theorem walksHot {x1 : Addr} (it lp : Addr) (hne : lp ≠ it) (its : Array Value) : Walks prog w A it [it, lp, x1] [it] its.size (fun i v => its[i]? = some v) (fun i h => h.IsListIter it lp i ∧ h.IsList lp its ∧ HotAt A x1 h) where
  sub := fun b hb => by simp at hb; simp [hb]
  frame := fun _ _ _ z hk => by
    obtain ⟨z1, z2, hh, o1, v1, g1, d1, c1⟩ := z
    exact ⟨z1.at fun o e => hk it (by simp) o e, z2.at fun o e => hk lp (by simp) o e, hh, o1, v1, hk x1 (by simp) _ g1, d1, c1⟩
  item := fun i s Q E hi z hQ => by
    obtain ⟨z1, z2, hot⟩ := z
    have hne2 : x1 ≠ it := by
      obtain ⟨ob, hob, hcl, hda⟩ := id z1
      exact hot_other hot hob hda rfl
    refine wpAny_pyNext_list_item z1 z2 (x := its[i]) (by simp [hi]) fun h' hit' hs' => ?_
    obtain ⟨hh, o1, v1, g1, d1, c1⟩ := hot
    exact hQ _ h' s.toks (by simp [hi]) ⟨hit', z2.extBut hs'.extBut hne, hh, o1, v1, hs'.extBut _ _ hne2 g1, d1, c1⟩ fun b o hb e => hs'.extBut b o (fun h => hb (by simp [h])) e
  done := fun s Q E z hQ => listEnd z.2.2 z.1 z.2.1 (by simp) fun h' he' => hQ h' s.toks fun b o hb e => he' b o (fun h => hb (by simp [h])) e
  self := fun _ _ _ _ z hQ => wpAny_pyIter_listiter z.1 hQ
end
end MiH
end PySem
namespace Mi
open PySem PySem.Spec PyProof.Rows L2 L2H HotX
section
variable {X : Cx}
/-- all(xs) of a list of bools -/
theorem cr_allHot (hc : HotC X) : CallR X (.builtin "all") (rAll X.K) := by
  intro pins s σ H vs us Q I r h
  obtain ⟨x1, hot⟩ := hc.at I
  obtain ⟨a, bs, rfl, hs, q⟩ := h
  obtain ⟨its, rv, hl, _⟩ := I.list hs
  rw [Vals.ref1 r]
  have hb := rv.bls
  refine call_all_walk (iter_any hl.isList fun s₂ e2 st hne => ?_)
  subst e2
  have hot2 : HotAt X.A.in1 x1 (s.heap.push { cls := .type "list_iterator", data := .fields #[.ref a, .int 0 0] }) := by
    obtain ⟨hh, o1, v1, g1, d1, c1⟩ := hot
    exact ⟨hh, o1, v1, Heap.get?_push_of_some _ g1, d1, c1⟩
  refine ⟨_, _, _, _, _, _, _, rfl, PySem.MiH.walksHot (A := X.A.in1) (x1 := x1) _ a hne its.toArray, ⟨st.1, st.2, hot2⟩, truth_bools hb, fun h' tk hk => ?_⟩
  refine ⟨.bl _, H, I.kept fun b o eo => hk b o (fun hm => ?_) (Heap.get?_push_of_some _ eo), ?_, q⟩
  · rcases List.mem_cons.mp hm with e1 | hm
    · exact absurd (e1 ▸ Heap.lt_size eo) (Nat.lt_irrefl _)
    · cases hm
  · show Value.bool _ = Value.bool _
    rw [← L2.all_range, hb, List.size_toArray, List.length_map]
theorem turn_tupleHot {P : Program} {w : World} {K : PySem.W.Frag} {tg : Expr} (a it : Addr) : TurnH P w K tg (Itt K a) [it] it (fun i h => h.IsTupleIter it a i) where
  mem := by simp
  obj := fun i h z b hb => by
    have e : b = it := by simpa using hb
    subst e
    obtain ⟨o, e, c, d⟩ := z
    exact ⟨o, e, fun v y => by rw [d] at y; cases y⟩
  keep := fun i h h' z k => z.at fun o e => k it (by simp) o e
  item := by
    intro X hP hw hK hc i pins s σ H E I hf z hg
    subst hP hw hK
    obtain ⟨xs, x, hq, hx⟩ := hg
    obtain ⟨its, rv, p, hz⟩ := I.tuple hq
    obtain ⟨u, hu, ru⟩ := rv.get hx
    obtain ⟨f0, f1, f2, f3, f4, f5⟩ := hf it (by simp)
    refine wpAny_pyNext_tuple_item z (show s.heap.IsTuple a its.toArray from p) (x := u) (by simpa using hu) fun h' z' sb => ?_
    have J : Inv X pins σ H { s with heap := h' } := I.turned (t' := s.toks) (fun b o hb e => (sb.2 b hb).trans e) f0 f1 f3 f4 f5
    obtain ⟨o, e, c, d⟩ := id z'
    exact ⟨u, rfl, go_of (s := { s with heap := h' }) e c d (by decide) ⟨x, H, J, ru, ⟨rfl, fun ys hy => by rw [I.tuple_inj hy hq]; exact hx⟩, z', fun b hb => (hf b hb).1⟩⟩
  done := by
    intro X hP hw hK hc i pins s σ H E I hf z hg
    subst hP hw hK
    obtain ⟨x1, hot⟩ := hc.at I
    obtain ⟨xs, hq, hx⟩ := hg
    obtain ⟨its, rv, p, hz⟩ := I.tuple hq
    obtain ⟨f0, f1, f2, f3, f4, f5⟩ := hf it (by simp)
    have hl := rv.length
    exact PySem.MiH.tupleEnd hot z (show s.heap.IsTuple a its.toArray from p) (by simp; omega) fun h' eb => ⟨rfl, I.turned (t' := s.toks) (fun b o hb e => eb b o hb e) f0 f1 f3 f4 f5⟩
  self := fun _ _ _ _ _ z h => wpAny_pyIter_tupleiter z h
theorem pi_tupHot {tg l : Expr} {tl : TE} (hl : PE X l tl) : PIH X tg l (iTup X.K tl) := by
  refine ⟨fun pins s σ H R I h => ?_⟩
  refine thn (hl.run pins s σ H _ I h) fun v s1 ⟨x, H1, I1, r1, q1⟩ => ?_
  obtain ⟨a, e, ⟨xs, hq⟩, q⟩ := q1
  subst e
  cases r1
  obtain ⟨its, rv, p, hz⟩ := I1.tuple hq
  refine wpAny_pyIter_tuple (show s1.heap.IsTuple a its.toArray from p) ?_
  refine ⟨s1.heap.objs.size, [s1.heap.objs.size], _, _, H1, rfl, I1.kept (t' := s1.toks) fun b o e => Heap.get?_push_of_some _ e, turn_tupleHot a _, ⟨_, Heap.get?_push_size _ rfl, rfl, rfl⟩, fun b hb => ?_, q⟩
  have e : b = s1.heap.objs.size := by simpa using hb
  rw [e]
  exact I1.fpOk (Nat.le_refl _) (I1.hok.fresh (Nat.le_refl _))
end

/-! ### a comprehension there -/
abbrev _root_.L2.Cx.blkH (X : Cx) (p : Addr × Obj) (s : Shared) (H : Hp) (scope : Scope) (cenv : PySem.Env) (fp : List Addr) : Cx := (X.blk s H scope cenv fp).tr [p] (fun _ _ => False)
theorem blk_pin {X : Cx} {p : Addr × Obj} {pins : List (Addr × Obj)} {σ σ' : L2.St} {H : Hp} {s : Shared} {scope : Scope} {fp : List Addr} (I : Inv X pins σ H s) (hp : p ∈ X.pn)
    (B : Inv (X.blk s H scope (compEnvC scope (cellsFrom (s.heap.objs.size + 1) scope.names (cloFrom X.env.cells scope.names [])) s.heap.objs.size X.env) fp) [] σ' H { s with heap := pushCells (s.heap.push { cls := .type "dict", data := .dict #[] }) scope.names }) :
    Inv (X.blkH p s H scope (compEnvC scope (cellsFrom (s.heap.objs.size + 1) scope.names (cloFrom X.env.cells scope.names [])) s.heap.objs.size X.env) fp) [] σ' H { s with heap := pushCells (s.heap.push { cls := .type "dict", data := .dict #[] }) scope.names } := by
  obtain ⟨g1, g2, g3, g4, g5⟩ := I.pin p (List.mem_append_left _ hp)
  refine ⟨B.ok.toTry _ _, B.os, B.bare, B.base, B.loc, B.cell, B.free, B.freeC, fun q hq => ?_, B.hok, B.len⟩
  have eq : q = p := by simpa using (show q ∈ [p] ++ ([] : List (Addr × Obj)) from hq)
  rw [eq]
  exact ⟨pushCells_keeps _ _ _ _ (Heap.get?_push_of_some _ g1), g2, Nat.ne_of_lt (Heap.lt_size g1), fun hm => (List.mem_cons.mp (I.stkSub p.1 hm)).elim g3 g4, g5⟩
section
variable {X : Cx}
theorem lcHot {pins : List (Addr × Obj)} {s : Shared} {σ : L2.St} {H : Hp} {Q : VK} {elt tg iter : Expr} {ifs : List Expr} {scope : Scope} {own : List (Str × Nat)} {pos pos' : Pos} {wi : TI} {g : TG} {tt : TT} {te : TE} {use : Option (Value → Sem Unit)} {Qf : Value → Shared → Prop}
    {p : Addr × Obj} (hot : Hot1 X.A p) (hp : p ∈ X.pn) (hN : X.N.Nodup) (J0 : Inv X pins σ H s) (hi : PIH X tg iter wi) (ok : BlkOk X.N X.env.scope scope own)
    (hg : ∀ (s : Shared) (H : Hp) (C : Addr) (cl : List (Str × Addr)) (fps : List Addr), PG (X.blkH p s H scope (compEnvC scope cl C X.env) fps) tg g) (ht : ∀ (s : Shared) (H : Hp) (C : Addr) (cl : List (Str × Addr)) (fps : List Addr), PTs (X.blkH p s H scope (compEnvC scope cl C X.env) fps) ifs tt)
    (he : ∀ (s : Shared) (H : Hp) (C : Addr) (cl : List (Str × Addr)) (fps : List Addr), PE (X.blkH p s H scope (compEnvC scope cl C X.env) fps) elt te) (hs : ∀ xi, foldedSetIterable iter X.env xi = pure xi)
    (h : tLc wi g tt te (own.map (·.2)) σ H Q)
    (hRR : ∀ Dl C s' mm H', Inv X pins σ H' s' → Q (.ref Dl) H' → s'.heap.Ns C mm → FpOk X pins H' C → compPost (model X.prog X.w) X.A X.xe use Qf (.ref Dl) C (.ok .next) s') :
    wpAny (model X.prog X.w) X.A (comprehension (.ListComp elt [⟨tg, iter, ifs, 0⟩] scope pos) scope X.env pos' (newList []) false (eval iter X.env) use) Qf X.xe s := by
  have hfree : ∀ y ∈ scope.names, y.2 = .free → ∃ c, X.env.cells.lookup y.1 = some c := fun y hy ee => by
    rcases ok.free y hy ee with k | k
    · exact J0.ok.has _ (.inl k)
    · exact J0.ok.has _ (.inr k)
  refine wpAny_comprehension_free (use := use) rfl hs (closure_ok hfree) ok.kind (fun y hy ee => by rw [ok.uniq y hy, ee])
    (thn (hi.run pins s σ H _ J0 h) fun xw t1 hw => thn hw fun iv t2 hw2 => ?_)
  obtain ⟨itr, fps, tnn, It0, G2, ee, J2, Tu, sx2, fo2, qt⟩ := hw2
  subst ee
  refine wpAny_newObj_type (newEnv_comp ?_) (by show 0 ≤ sizeLine; decide)
  generalize eD : t2.heap.objs.size = Dl
  have nD : G2 Dl = none := J2.hok.fresh (Nat.le_of_eq eD)
  obtain ⟨Wt, ⟨mt0, wt0⟩, trn⟩ := qt Dl nD
  -- the new list
  generalize es3 : ({ t2 with heap := t2.heap.push { cls := .type "list", data := .seq ([] : List Value).toArray } } : Shared) = t3
  have J3 : Inv X pins σ (upd G2 Dl (.lst [])) t3 := by
    rw [← es3]
    refine J2.laid (t' := t2.toks) (fun bb oo ee => Heap.get?_push_of_some _ ee) (Nat.le_of_eq eD) ⟨Nat.zero_le _, [], 0, .nil, ?_⟩
    rw [← eD]
    exact Heap.get?_push_size _ rfl
  have eh3 : t3.heap = t2.heap.push { cls := .type "list", data := .seq ([] : List Value).toArray } := by rw [← es3]
  have size : ∀ bb ∈ fps, bb < t2.heap.objs.size := fun bb hb => by
    obtain ⟨oo, ee, _⟩ := Tu.obj _ _ sx2 bb hb
    exact Heap.lt_size ee
  have fo3 : ∀ bb ∈ fps, FpOk X pins (upd G2 Dl (.lst [])) bb ∧ bb < t3.heap.objs.size := fun bb hb => by
    have hlt := size bb hb
    refine ⟨⟨?_, (fo2 bb hb).2⟩, by rw [eh3, Heap.size_push]; exact Nat.lt_succ_of_lt hlt⟩
    rw [upd_ne (by rw [← eD]; exact Nat.ne_of_lt hlt)]
    exact (fo2 bb hb).1
  have sx3 : tnn 0 t3.heap := Tu.keep _ _ _ sx2 fun bb _ oo ee => by rw [eh3]; exact Heap.get?_push_of_some _ ee
  have J4 := blk_pin J3 hp (block_start J3 ok hN fo3)
  have pg := hg t3 (upd G2 Dl (.lst [])) t3.heap.objs.size (cellsFrom (t3.heap.objs.size + 1) scope.names (cloFrom X.env.cells scope.names [])) fps
  have pt := ht t3 (upd G2 Dl (.lst [])) t3.heap.objs.size (cellsFrom (t3.heap.objs.size + 1) scope.names (cloFrom X.env.cells scope.names [])) fps
  have pe := he t3 (upd G2 Dl (.lst [])) t3.heap.objs.size (cellsFrom (t3.heap.objs.size + 1) scope.names (cloFrom X.env.cells scope.names [])) fps
  show codeAny _ _ (.compStart (.ListComp elt [⟨tg, iter, ifs, 0⟩] scope pos) 0 (.ref itr) (.ref Dl) (compEnvC scope (cellsFrom (t3.heap.objs.size + 1) scope.names (cloFrom X.env.cells scope.names [])) t3.heap.objs.size X.env)) (compPost (model X.prog X.w) X.A X.xe use Qf (.ref Dl) t3.heap.objs.size) { t3 with heap := pushCells (t3.heap.push { cls := .type "dict", data := .dict #[] }) scope.names }
  have nfps : ∀ bb ∈ fps, (upd G2 Dl (.lst [])) bb = none := fun bb hb => (fo3 bb hb).1.1
  generalize ece : compEnvC scope (cellsFrom (t3.heap.objs.size + 1) scope.names (cloFrom X.env.cells scope.names [])) t3.heap.objs.size X.env = cev at J4 pg pt pe ⊢
  have cevL : cev.locals = t3.heap.objs.size := by subst ece; rfl
  generalize eG3 : upd G2 Dl (.lst []) = G3 at J3 J4 pg pt pe wt0 nfps fo3
  generalize es4 : ({ t3 with heap := pushCells (t3.heap.push { cls := .type "dict", data := .dict #[] }) scope.names } : Shared) = t4 at J4 ⊢
  have sx4 : tnn 0 t4.heap := Tu.keep _ _ _ sx3 fun bb _ oo ee => by rw [← es4]; exact pushCells_keeps _ _ _ _ (Heap.get?_push_of_some _ ee)
  have statt : ∀ {σ' : L2.St} {H' : Hp} {s' : Shared}, Inv (X.blkH p t3 G3 scope cev fps) [] σ' H' s' → (∀ bb ∈ fps, H' bb = none) → ∀ bb ∈ fps, FpOk (X.blkH p t3 G3 scope cev fps) [] H' bb := fun {σ' H' s'} J' hns bb hb =>
    ⟨hns bb hb, (J'.ok.exf bb hb).1, J'.ok.exfs bb hb, .inl hb, fun xi c ee => (J'.ok.exf bb hb).2 xi c ee, fun qx hq => by
      have eq : qx = p := by simpa using (show qx ∈ [p] ++ ([] : List (Addr × Obj)) from hq)
      rw [eq]
      exact (fo3 bb hb).1.2.2.2.2.2 p (List.mem_append_left _ hp)⟩
  have lp : codeAny (model X.prog X.w) X.A (.compLoop (.ListComp elt [⟨tg, iter, ifs, 0⟩] scope pos) 0 (.ref itr) (.ref Dl) cev) (compPost (model X.prog X.w) X.A X.xe use Qf (.ref Dl) t3.heap.objs.size) t4 := by
    refine compLoop_any (fun n s' => ∃ i H', Inv (X.blkH p t3 G3 scope cev fps) [] (wipe σ (own.map (·.2))) H' s' ∧ tnn i s'.heap ∧ (∀ bb ∈ fps, H' bb = none) ∧ Wt i n H') ?_ mt0 ⟨0, G3, J4, sx4, nfps, wt0⟩
    rintro n t5 ⟨i, G5, J5, sx5, no5, wt5⟩
    rcases trn i n G5 wt5 with ⟨sp, qe⟩ | ⟨gg, Nt, hNt, stp⟩
    · have tdn := Tu.done (X.blkH p t3 G3 scope cev fps) rfl rfl rfl ⟨p, hot, List.mem_singleton.mpr rfl⟩ i [] t5 _ G5 (fun _ _ => False) J5 (statt J5 no5) sx5 sp
      refine thnF tdn fun r t6 ⟨er, J6⟩ => ?_
      subst er
      -- back in the def's context
      have J7 : Inv X pins σ G5 t6 := J3.call' (ch := fps) J6.os J6.base J6.hok J6.bare fun bb hb => ⟨(fo3 bb hb).1.2.2.2.1, (fo3 bb hb).1.2.1, (fo3 bb hb).1.2.2.2.2.1, (fo3 bb hb).1.2.2.2.2.2⟩
      have noC : G5 t3.heap.objs.size = none := by
        have zz : G5 cev.locals = none := J6.free
        rw [cevL] at zz
        exact zz
      obtain ⟨mm, hns, _⟩ := J6.loc
      have hns : t6.heap.Ns cev.locals mm := hns
      rw [cevL] at hns
      exact hRR Dl t3.heap.objs.size t6 mm G5 J7 qe hns (J3.fpOk (Nat.le_refl _) noC)
    · have tit := Tu.item (X.blkH p t3 G3 scope cev fps) rfl rfl rfl ⟨p, hot, List.mem_singleton.mpr rfl⟩ i [] t5 _ G5 (fun _ _ => False) J5 (statt J5 no5) sx5 gg
      refine thnF tit fun r t6 ⟨ui, er, hh6⟩ => ?_
      subst er
      refine thnF hh6 fun _ t7 ⟨xi, G7, J7, r7, y7, sx7, no7⟩ => ?_
      have J7' := J7.pinned (statt J7 no7) (Tu.obj _ _ sx7)
      refine thnF (pg.run _ t7 _ G7 xi ui _ J7' r7 (stp xi G7 y7)) fun _ t8 ⟨τ8, G8, J8, wp8, qt8⟩ => ?_
      refine thnF (pt.run _ t8 τ8 G8 _ J8 qt8) fun bb t9 ⟨G9, J9, qt9⟩ => ?_
      -- the turn's end
      have fint : ∀ {s' : Shared} {H' : Hp}, Inv (X.blkH p t3 G3 scope cev fps) ([] ++ pinsAt fps t7.heap) τ8 H' s' → Nt H' → ∃ mm, mm < n ∧ ∃ i H', Inv (X.blkH p t3 G3 scope cev fps) [] (wipe σ (own.map (·.2))) H' s' ∧ tnn i s'.heap ∧ (∀ bb ∈ fps, H' bb = none) ∧ Wt i mm H' := fun {s' H'} I' nxt => by
        obtain ⟨m', hm, w'⟩ := hNt H' nxt
        have pinq : ∀ bb ∈ fps, ∀ oo, t7.heap.get? bb = some oo → s'.heap.get? bb = some oo ∧ H' bb = none := fun bb hb oo ee =>
          let zz := I'.pin (bb, oo) (List.mem_append_right _ (List.mem_append_right _ (mem_pinsAt hb ee)))
          ⟨zz.1, zz.2.1⟩
        have hle : (wipe σ (own.map (·.2))).length = τ8.length := by rw [← wp8, wipe_length]
        refine ⟨m', hm, i + 1, H', (I'.unpinned (pins := [])).weak hle (fun j v ee => ?_), Tu.keep _ _ _ sx7 fun bb hb oo ee => (pinq bb hb oo ee).1, fun bb hb => ?_, w'⟩
        · rw [← wp8] at ee
          exact (wipe_some ee).1
        · obtain ⟨oo, ee, _⟩ := Tu.obj _ _ sx7 bb hb
          exact (pinq bb hb oo ee).2
      cases bb with
      | false =>
        simp only [Bool.false_eq_true, if_false] at qt9 ⊢
        exact fint J9 qt9
      | true =>
        simp only [if_true] at qt9 ⊢
        refine thnF (pe.run _ t9 τ8 G9 _ J9 qt9) fun zz t10 ⟨yw, G10, J10, rr10, ac, eD10, sz10, nxt⟩ => ?_
        exact app_ok (X := X.blkH p t3 G3 scope cev fps) J10 eD10 sz10 rr10 fun t11 J11 => fint J11 nxt
  exact codeAny_compStart_list lp (Tu.self X.A 0 _ _ _ sx4 lp)
theorem pe_lcHot {elt tg iter : Expr} {ifs : List Expr} {scope : Scope} {own : List (Str × Nat)} {pos : Pos} {wi : TI} {g : TG} {tt : TT} {te : TE} {p : Addr × Obj} (hot : Hot1 X.A p) (hp : p ∈ X.pn) (hN : X.N.Nodup) (hi : PIH X tg iter wi) (ok : BlkOk X.N X.env.scope scope own)
    (hg : ∀ (s : Shared) (H : Hp) (C : Addr) (cl : List (Str × Addr)) (fps : List Addr), PG (X.blkH p s H scope (compEnvC scope cl C X.env) fps) tg g) (ht : ∀ (s : Shared) (H : Hp) (C : Addr) (cl : List (Str × Addr)) (fps : List Addr), PTs (X.blkH p s H scope (compEnvC scope cl C X.env) fps) ifs tt)
    (he : ∀ (s : Shared) (H : Hp) (C : Addr) (cl : List (Str × Addr)) (fps : List Addr), PE (X.blkH p s H scope (compEnvC scope cl C X.env) fps) elt te) (hs : ∀ x, foldedSetIterable iter X.env x = pure x := by intro _; rfl) :
    PE X (.ListComp elt [⟨tg, iter, ifs, 0⟩] scope pos) (tLc wi g tt te (own.map (·.2))) := by
  refine ⟨fun pins s σ H Q I h => ?_⟩
  rw [eval_ListComp]
  refine lcHot hot hp hN I hi ok hg ht he hs h fun D C s' m H' I' q hn f => ⟨m, hn, fun h'' sb => ?_⟩
  obtain ⟨f0, f1, f2, f3, f4, f5⟩ := f
  exact ⟨.ref D, H', I'.turned (t' := s'.toks) (fun b o hb e => (sb.2 b hb).trans e) f0 f1 f3 f4 f5, rfl, q⟩
end
end Mi


set_option Elab.async false
set_option linter.all false
set_option maxRecDepth 100000
set_option maxHeartbeats 2000000
/-! MiT: the head: a hook over the written part without its lists; own exceptions told by a Bool. -/
namespace PySem
namespace MiX
open PySem.W PySem.Calls PyProof.Rows PySem.HandSPX
/-! ### the class of an own exception over ValueError, by a Bool -/
def excVE (K : Frag) (C : Addr) : Bool := match K.lookup C with
  | some ⟨.type "type", _, .cls cd, sl⟩ => (match cd.mro, sl.toList with
    | .ref C' :: bm, [_, _, _, _, some (.builtin n), _] => C' == C && n == "ValueError.__new__" && !cd.hasDel && cd.hasDict && refsVE bm
    | _, _ => false)
  | _ => false
theorem excVE_ok {K : Frag} {C : Addr} (q : excVE K C = true) : ∃ nm qn N bs bm sn sub ab col dd k0 k1 k2 k3 k5, K.lookup C = some (excClassObj nm qn C N bs bm true sn sub ab col dd k0 k1 k2 k3 k5 "ValueError.__new__") ∧ refsVE bm = true := by
  unfold excVE at q
  split at q
  · rename_i dd cd sl ho
    split at q
    · rename_i C' bm k0 k1 k2 k3 n k5 hm hs
      simp only [Bool.and_eq_true, beq_iff_eq, Bool.not_eq_true'] at q
      obtain ⟨⟨⟨⟨rfl, rfl⟩, hdel⟩, hdict⟩, ht⟩ := q
      obtain ⟨nm, bs, mro, ns, qn, hd, sn, sub, ab, col, del⟩ := cd
      dsimp only at hm hdel hdict
      subst hm hdel hdict
      have hsl : sl = #[k0, k1, k2, k3, some (.builtin "ValueError.__new__"), k5] := by
        obtain ⟨l⟩ := sl
        have hs : l = [k0, k1, k2, k3, some (.builtin "ValueError.__new__"), k5] := hs
        rw [hs]
      subst hsl
      exact ⟨nm, qn, ns, bs, bm, sn, sub, ab, col, dd, k0, k1, k2, k3, k5, ho, ht⟩
    · cases q
  · cases q
abbrev IW : Type := Option (Str × Str × Arguments × FuncBody × Scope × Addr × List Str × Addr)
def initW (K : Frag) (f : Addr) : IW := match K.lookup f with
  | some ⟨_, _, .func fd, _⟩ => some (fd.name, fd.qualname, fd.params, fd.body, fd.scope, fd.globals, fd.closure.map (·.1), fd.builtins)
  | _ => none
def isStrAt (file : Str) : Option Value → Bool
  | some (.str g _) => file == g
  | _ => false
def codeFile (file : Str) (K : Frag) (c : Addr) : Bool := match K.lookup c with
  | some ⟨_, _, .fields vs, _⟩ => isStrAt file vs[2]?
  | _ => false
def cellOf (K : Frag) (cc C : Addr) : Bool := match K.lookup cc with
  | some ⟨_, _, .cell (some (.ref D)), _⟩ => D == C
  | _ => false
def isNon : Value → Bool
  | .none => true
  | _ => false
def initB (file q : Str) (K : Frag) (fI C : Addr) : Bool := match K.lookup fI with
  | some ⟨_, _, .func fd, _⟩ => isNon fd.defaults && isNon fd.kwdefaults && (match fd.code, fd.closure with
    | .ref c, [(_, cc)] => codeIn K (.ref c) q && codeFile file K c && cellOf K cc C
    | _, _ => false)
  | _ => false
def ownB (file f q : Str) (K : Frag) (C fI : Addr) : Bool := excVE K C && (decide (findIn K (.ref C) "__setattr__" = some (some (.builtin "object.__setattr__"))) && (decide (findIn K (.ref C) f = some none) && (decide (findIn K (.ref C) "__init__" = some (some (.ref fI))) && (decide (typeIn K (.ref fI) = some (.type "function")) && (keepIn K (.ref C) &&
  (decide (subIn K (.ref C) (.type "BaseException") = some true) && (decide (typeIn K (.ref C) = some (.type "type")) && (initB file q K fI C && (decide (mroIn K C (.ref C) = some true) && (decide (mroIn K C (.type "ValueError") = some true) && (decide (ks_superIn K C C "__init__" = some (some (.builtin "ValueError.__init__"))) && decide (nsIn K cStatics "thirdparty.any" = some none))))))))))))
theorem ownT_of {prog : Program} {K : Frag} {f q pn : Str} {C fI : Addr} {params : Arguments} {body : List Stmt} {sc : Scope} (e : initW K fI = (some (("__init__" : Str), q, params, FuncBody.stmts body, sc, mainGlobals, [("__class__" : Str)], builtinsNs) : IW)) (h : ownB prog.main.file f q K C fI = true) : ∃ cc cda, OwnT prog K f C fI cc cda q pn params body sc := by
  unfold ownB at h
  simp only [Bool.and_eq_true, decide_eq_true_eq] at h
  obtain ⟨h1, h2, h3, h4, h5, h6, h7, h8, h9, h10, h11, h12, h13⟩ := h
  unfold initB at h9
  unfold initW at e
  cases ho : K.lookup fI with
  | none => rw [ho] at h9; cases h9
  | some o =>
    obtain ⟨oc, od, dt, osl⟩ := o
    rw [ho] at h9 e
    cases dt with
    | func fd =>
      obtain ⟨n1, n2, n3, n4, n5, n6, n7, n8, n9, n10, n11, n12, n13, n14, n15⟩ := fd
      simp only [Option.some.injEq, Prod.mk.injEq] at e
      obtain ⟨rfl, rfl, rfl, rfl, rfl, rfl, e7, rfl⟩ := e
      simp only [Bool.and_eq_true] at h9
      obtain ⟨⟨d1, d2⟩, d3⟩ := h9
      have d1 : n8 = .none := by
        cases n8 <;> first | rfl | cases d1
      have d2 : n9 = .none := by
        cases n9 <;> first | rfl | cases d2
      subst d1 d2
      split at d3
      · rename_i c x cc
        simp only [Bool.and_eq_true] at d3
        obtain ⟨⟨c1, c2⟩, c3⟩ := d3
        have ex : x = "__class__" := by simpa using e7
        subst ex
        refine ⟨cc, c, excVE_ok h1, h2, h3, h4, h5, h6, h7, h8, ⟨oc, od, n10, n11, n12, n14, osl, ho⟩, c1, ?_, ?_, h10, h11, h12, h13⟩
        · unfold codeFile at c2
          cases hq : K.lookup c with
          | none => rw [hq] at c2; cases c2
          | some u =>
            obtain ⟨uc, ud, ut, us⟩ := u
            rw [hq] at c2
            cases ut with
            | fields vs =>
              have c2 : isStrAt prog.main.file vs[2]? = true := c2
              generalize hg : vs[2]? = ov at c2
              unfold isStrAt at c2
              split at c2
              · rename_i g tf
                exact ⟨uc, ud, vs, us, g, tf, rfl, hg, c2⟩
              · cases c2
            | _ => cases c2
        · unfold cellOf at c3
          cases hq : K.lookup cc with
          | none => rw [hq] at c3; cases c3
          | some u =>
            obtain ⟨uc, ud, ut, us⟩ := u
            rw [hq] at c3
            cases ut with
            | cell v =>
              cases v with
              | none => cases c3
              | some v =>
                cases v with
                | ref D =>
                  have c3 : (D == C) = true := c3
                  have := beq_iff_eq.mp c3
                  subst this
                  exact ⟨uc, ud, us, rfl⟩
                | _ => cases c3
            | _ => cases c3
      · cases d3
    | _ => cases h9
end MiX
end PySem
namespace Mi
open PySem PySem.Spec PyProof.Rows L2
/-! ### the hook -/
def noLst (o : Obj) : Bool := match o.cls with
  | .type c => decide (c ≠ "list")
  | _ => true
def frL (g : Addr → Option Obj) (as : List Addr) : PySem.W.Frag := (He.frG g as).filter fun q => noLst q.2
theorem frL_at {g : Addr → Option Obj} {as : List Addr} {a : Addr} {o : Obj} (h : (frL g as).lookup a = some o) : g a = some o ∧ noLst o = true := by
  obtain ⟨h1, h2⟩ := List.mem_filter.mp (He.lookup_mem h)
  exact ⟨He.frG_mem h1, h2⟩
/-- facts, defs, further data and a Bool of the written part without lists -/
structure SaysL {β : Type} (fa : List He.Fa) (fn : List He.DefD) (ob : PySem.W.Frag → β) (vb : β) (ex : PySem.W.Frag → Bool) (K : PySem.W.Frag) : Prop where
  d : He.SaysD fa fn K
  b : ob K = vb
  x : ex K = true
  l : ∀ a o, K.lookup a = some o → noLst o = true
def obsL {β : Type} (n : Nat) (fa : List He.Fa) (fn : List He.DefD) (ob : PySem.W.Frag → β) (ex : PySem.W.Frag → Bool) (g : Addr → Option Obj) : He.AlD × β × Bool := (He.obsD fa fn (frL g (cStatics :: He.asD g n)), ob (frL g (cStatics :: He.asD g n)), ex (frL g (cStatics :: He.asD g n)))
def hookL {β : Type} (n : Nat) (fa : List He.Fa) (fn : List He.DefD) (ob : PySem.W.Frag → β) (vb : β) (ex : PySem.W.Frag → Bool) : PySem.W.Hook where
  α := He.AlD × β × Bool
  obs := fun s => obsL n fa fn ob ex s.heap.get?
  val := fun _ => (He.valD fn, vb, true)
  says := fun _ h => ∃ K : PySem.W.Frag, K.In h ∧ SaysL fa fn ob vb ex K
  of := fun _ s e => ⟨frL s.heap.get? (cStatics :: He.asD s.heap.get? n), fun _ _ z => (frL_at z).1, congrArg (fun z : He.AlD × β × Bool => z.1) e, congrArg (fun z : He.AlD × β × Bool => z.2.1) e, congrArg (fun z : He.AlD × β × Bool => z.2.2) e, fun _ _ z => (frL_at z).2⟩
  keeps := fun _ _ _ ⟨K, hK, c⟩ k => ⟨K, PySem.W.Frag.In.keeps hK k, c⟩
theorem obsL_eq {β : Type} {n : Nat} {fa : List He.Fa} {fn : List He.DefD} {ob : PySem.W.Frag → β} {vb : β} {ex : PySem.W.Frag → Bool} {g : Addr → Option Obj} {s : Shared} (h : ∀ a, g a = s.heap.get? a) : obsL n fa fn ob ex g = (hookL n fa fn ob vb ex).obs s := by
  have e : g = s.heap.get? := funext h
  rw [e]
  rfl
/-- no list is written: what is a list is in the heap's told part -/
theorem SaysL.seq {β : Type} {fa : List He.Fa} {fn : List He.DefD} {ob : PySem.W.Frag → β} {vb : β} {ex : PySem.W.Frag → Bool} {K : PySem.W.Frag} (c : SaysL fa fn ob vb ex K) {H : Hp} {a : Addr} {xs : List L2.V} (h : SqL K H a xs) : Rd H a (.lst xs) := by
  rcases h with h | ⟨o, its, n, hk, hc, _⟩
  · exact h
  · have := c.l a o hk
    unfold noLst at this
    rw [hc] at this
    cases this
/-- a def whose promise lets no exception out -/
theorem fn_nox {P : Program} {w : World} {K : PySem.W.Frag} {mg : Str → Option Value} {base : Heap} {k : Nat} {f : Addr} {fd : FuncData} {ps : List Str} {sp : Sp} (F : FnOk P w K mg base (L2N.CX P w) k f fd ps sp) :
    FnOk P w K mg base CX0 k f fd ps (fun vs H Q _ => sp vs H Q fun _ _ _ => False) := by
  refine ⟨fun vs H Q E h => F.len vs H Q _ h, fun A outer s H args us vs Q E hr e0 hb r h => codeAny_mono (F.run A outer s H args us vs Q (fun _ _ _ => False) hr e0 hb r h) fun x s' hq => ?_⟩
  cases x with
  | error e =>
    obtain ⟨_, _, _, _, _, _, _, _, _, _, _, _, z⟩ := (show L2N.CX P w outer H s (fun _ _ _ => False) e s' from hq)
    exact z.elim
  | ok fl =>
    cases fl with
    | ret u => exact hq
    | next => exact hq
    | brk => exact hq
    | cont => exact hq
/-- a def told by itself, over all defs of the module -/
theorem fn_one {P : Program} {w : World} {K : PySem.W.Frag} {mg : Str → Option Value} {base : Heap} {G : Gi} {tab : List (Str × Df)} {EI : Ei} {U : ExtT} {M L : Nat} (mh : ModH P w K mg base G tab) (mx : ModX P w K mg base G EI U) (n : Nat) {f : Str} {d : Df} (hd : tab.lookup f = some d)
    {fa : Addr} {fd : FuncData} {ps : List Str} {x qual : Str} {params : Arguments} (Fd : FunD K x qual params d.body d.sc [] [] fa fd) (Sc : FnScope d.N ps d.sc) (hps : ps.length = d.np) : FnOk P w K mg base (L2N.CX P w) (n + 5) fa fd ps (spC K (callN G EI U M L tab (n + 1)) f) := by
  have gx : ∀ (cdv : Value) (A : Around) (outer : List PySem.Env) (s : Shared) (H : Hp) (E : XK), Room (n + 4) (A.deeper (envOfC qual d.sc s.heap.objs.size fa cdv)) → Gx (cxOf (L2N.CX P w) P w K mg base d.N qual d.sc fa cdv A outer s H E) G (callN G EI U M L tab n) := fun cdv A outer s H E hr => by
    refine ⟨fun g hg => ?_, mh.blt, mh.cst, ?_⟩
    · obtain ⟨d', hd'⟩ := mh.dom g hg
      obtain ⟨fa', fd', ps', ok', hm', kp', hb', _⟩ := fn_all (M := M) (L := L) mh mx n g d' hd'
      exact ⟨n + 4, fa', fd', ps', ok', hr, hm', kp', hb'⟩
    · have := hr.un
      show (A.deeper (envOfC qual d.sc s.heap.objs.size fa cdv)).units + 200 < cLine
      omega
  refine (ok_def (M := M) (L := L) Fd Sc hps gx fun cdv A outer s H E hr => mx _ _ _ _ _ _ _ _ _ _ _ n hr Sc.nd (gx cdv A outer s H E hr)).imp fun vs H Q E h => ?_
  obtain ⟨ρ, Gh, T, ds, wd, r, p⟩ := h
  refine ⟨ρ, Gh, T, ds, wd, r, ?_⟩
  have e : callN G EI U M L tab (n + 1) f ds T = runDf G EI U (callN G EI U M L tab n) M L d ds T := by
    show (match tab.lookup f with
      | some d => runDf G EI U (callN G EI U M L tab n) M L d ds T
      | none => .bad) = _
    rw [hd]
  rw [← e]
  exact p
end Mi


set_option Elab.async false
set_option linter.all false
set_option maxRecDepth 100000
namespace K76
open PySem Mi L2
/-! ### the tables -/
def top (i : Nat) : Stmt := PySem.Challenge.pw_gradatim_k76_machines_and_falls.main.body.getD i (.Pass ⟨0, 0, 0, 0⟩)
def d_is_rule : Df := ⟨["value", "many", "one"], 2, defScope (top 11), defBody (top 11)⟩
def d_is_machine : Df := ⟨["value", "many", "rule"], 1, defScope (top 12), defBody (top 12)⟩
def d_next_counter : Df := ⟨["machine", "left", "counter", "words", "index"], 2, defScope (top 13), defBody (top 13)⟩
def d_order_of_falls : Df := ⟨["machine", "left", "found", "counter", "index"], 1, defScope (top 14), defBody (top 14)⟩
def d__law_stream : Df := ⟨["script", "mixed", "cell"], 1, defScope (top 16), defBody (top 16)⟩
def d__law_draw : Df := ⟨["stream", "many", "value"], 2, defScope (top 17), defBody (top 17)⟩
def d__law_pick : Df := ⟨["stream", "rows"], 2, defScope (top 18), defBody (top 18)⟩
def d__law_mixed : Df := ⟨["stream", "rows", "left", "found", "k"], 2, defScope (top 19), defBody (top 19)⟩
def d__law_ordered : Df := ⟨["stream", "many", "count", "order", "rules", "k", "at", "rule", "counter"], 3, defScope (top 20), defBody (top 20)⟩
def d__law_drawn : Df := ⟨["stream", "many", "count", "rules", "k", "at", "rule", "j"], 1, defScope (top 21), defBody (top 21)⟩
def d__law_is_rule : Df := ⟨["rule", "count", "one"], 2, defScope (top 22), defBody (top 22)⟩
def d__law_is_machine : Df := ⟨["value", "rule"], 1, defScope (top 23), defBody (top 23)⟩
def d__law_odd : Df := ⟨["stream", "rows"], 1, defScope (top 24), defBody (top 24)⟩
def d__law_exchanged : Df := ⟨["stream", "value", "depth", "pick", "at"], 3, defScope (top 25), defBody (top 25)⟩
def d__law_value : Df := ⟨["stream", "value", "pick", "wide", "rule", "one"], 1, defScope (top 26), defBody (top 26)⟩
def d__law_due : Df := ⟨["machine", "left", "order", "turn", "found", "k", "at"], 1, defScope (top 27), defBody (top 27)⟩
def d__law_same : Df := ⟨["told", "due", "one"], 2, defScope (top 28), defBody (top 28)⟩
def d__law_is_told : Df := ⟨["machine", "due", "e", "told"], 1, defScope (top 29), defBody (top 29)⟩
def d_law : Df := ⟨["script", "stream", "k", "machine", "value", "told"], 1, defScope (top 30), defBody (top 30)⟩
def tab : List (Str × Df) := ([("is_rule", d_is_rule), ("is_machine", d_is_machine), ("next_counter", d_next_counter), ("order_of_falls", d_order_of_falls), ("_law_stream", d__law_stream), ("_law_draw", d__law_draw), ("_law_pick", d__law_pick), ("_law_mixed", d__law_mixed), ("_law_ordered", d__law_ordered), ("_law_drawn", d__law_drawn)] : List (Str × Df)) ++ ([("_law_is_rule", d__law_is_rule), ("_law_is_machine", d__law_is_machine), ("_law_odd", d__law_odd), ("_law_exchanged", d__law_exchanged), ("_law_value", d__law_value), ("_law_due", d__law_due), ("_law_same", d__law_same), ("_law_is_told", d__law_is_told), ("law", d_law)] : List (Str × Df))
def fnN : List Str := (["is_rule", "is_machine", "next_counter", "order_of_falls", "_law_stream", "_law_draw", "_law_pick", "_law_mixed", "_law_ordered", "_law_drawn"] : List (Str)) ++ (["_law_is_rule", "_law_is_machine", "_law_odd", "_law_exchanged", "_law_value", "_law_due", "_law_same", "_law_is_told", "law"] : List (Str))
def cst : List (Str × D) := ([("STAYS", (.int 0)), ("FALLS", (.int 1)), ("SET", (.int 2)), ("MOST_COUNTERS", (.int 8)), ("MOST_RULES", (.int 40))] : List (Str × D))
def G : Gi := ⟨fnN, cst, ["stream"], ([(44, ["left"]), (108, ["rows"])] : List (Nat × List Str))⟩
def EI : Ei := ⟨fun x ds => if x = ("Stuck" : Str) then (match ds with
  | [d] => some ⟨"Stuck", some [("rules", d)]⟩
  | _ => none) else none, fun x n => decide (x = ("Stuck" : Str)) && n == 1⟩
def s_told (i : Nat) : Stmt := (defBody (top 29)).getD i (.Pass ⟨0, 0, 0, 0⟩)
def tryS : Stmt := s_told 1
def F_told : Fi := ⟨d__law_is_told.N, d__law_is_told.sc, fun _ => true⟩
def isTry : Stmt → Bool
  | .Try _ _ _ _ _ => true
  | _ => false
def tryBody : Stmt → List Stmt
  | .Try b _ _ _ _ => b
  | _ => []
def valOf : List Stmt → Expr
  | [.Assign _ e _] => e
  | _ => .Constant .none 0 ⟨0, 0, 0, 0⟩
def callX : Expr := valOf (tryBody tryS)
/-- what the suite answers: Stuck, its rules, what is due -/
def suiteG : Option Mi.Sl → Xn → Sto → RS
  | some (.ow (.lst [_, .tup ls])), ⟨c, some [(f, .tup rs)]⟩, T => if c = ("Stuck" : Str) ∧ f = ("rules" : Str) ∧ rs.length ≤ 1000 then (match intsOf rs, intsOf ls with
    | some is, some js => .rt (.bl (!js.isEmpty && decide (is = js))) false T
    | _, _ => .bad) else .bad
  | _, _, _ => .bad
def suiteM (x : Xn) : SM := fun σ T => if 2 < σ.length then suiteG σ[1]? x T else .bad
def catchM : RS → RS
  | .ex x σ T => suiteM x σ T
  | r => r
def bodyM (R : Dn) : SM := fun σ T => (R.val F_told callX σ T).then_ σ fun d T1 => put G 3 "told" d.1 d.2 σ T1
def tryM (R : Dn) : SM := fun σ T => catchM (bodyM R σ T)
def tryMS (C : CallT) : SM := fun σ T => catchM (sSet 3 (callC C "order_of_falls" [V (vVar 0)]) σ T)
open Classical in
noncomputable def U : ExtT := fun _ R F st => match isTry st with
  | true => if st = tryS ∧ F = F_told then some (tryM R) else none
  | false => none
theorem U_try (C : CallT) (R : Dn) : U C R F_told tryS = some (tryM R) := by
  unfold U
  rw [show isTry tryS = true by kernel_rfl]
  exact if_pos ⟨rfl, rfl⟩
abbrev fuelE : Nat := 30
noncomputable abbrev cl (n : Nat) : CallT := callN G EI U fuelE fuelE tab n
/-! ### the defs without the text -/
def m_is_rule (C : CallT) : SM := (sSeq [(sIf (tAnyE [(tNotE (truE (V (isiE "tuple" (pVar 0))))), (cmpE .NotEq (V (lenE (pVar 0))) (pVar 1))]) (sSeq [(sRet (kE (.bl false)))]) (sSeq [])), (sFor (tgN 2) (itX (V (vVar 0))) (sSeq [(sIf (tAnyE [(tNotE (truE (V (isiE "int" (pVar 2))))), (truE (V (isiE "bool" (pVar 2)))), (cmpE .NotIn (pVar 2) (V (tupE [(V (kE (.int 0))), (V (kE (.int 1))), (V (kE (.int 2)))])))]) (sSeq [(sRet (kE (.bl false)))]) (sSeq []))])), (sRet (blE (cmpE .In (V (kE (.int 1))) (pVar 0))))])
theorem c_is_rule (C : CallT) : stmsBy (sn G EI U C fuelE fuelE) d_is_rule.body ⟨d_is_rule.N, d_is_rule.sc, fun _ => true⟩ = m_is_rule C := by kernel_rfl
def m_is_machine (C : CallT) : SM := (sSeq [(sIf (tAnyE [(tNotE (truE (V (isiE "tuple" (pVar 0))))), (tNotE (chE .LtE .LtE (V (kE (.int 1))) (V (lenE (pVar 0))) (V (kE (.int 40))))), (tNotE (truE (V (isiE "tuple" (V (ixE (pVar 0) (V (kE (.int 0)))))))))]) (sSeq [(sRet (kE (.bl false)))]) (sSeq [])), (sSet 1 (lenE (V (ixE (pVar 0) (V (kE (.int 0))))))), (sRet (andE [(V (blE (chE .LtE .LtE (V (kE (.int 1))) (pVar 1) (V (kE (.int 8)))))), (V (bltE "all" (V (lcM (tgN 2) yesE (V (callC C "is_rule" [(V (vVar 2)), (V (vVar 1))])) [2] (itX (pVar 0))))))]))])
theorem c_is_machine (C : CallT) : stmsBy (sn G EI U C fuelE fuelE) d_is_machine.body ⟨d_is_machine.N, d_is_machine.sc, fun _ => true⟩ = m_is_machine C := by kernel_rfl
def m_next_counter (C : CallT) : SM := (sSeq [(sFor (tgN 2) (itR1 (V (lenE (V (ixE (pVar 0) (V (kE (.int 0)))))))) (sSeq [(sSet 3 (lcM (tgN 4) yesE (V (ixE (V (ixE (pVar 0) (V (vVar 4)))) (V (vVar 2)))) [4] (itX (pVar 1)))), (sIf (tAllE [(cmpE .In (V (kE (.int 1))) (pVar 3)), (cmpE .NotIn (V (kE (.int 2))) (pVar 3))]) (sSeq [(sRetV 2)]) (sSeq []))])), (sRet (kE .non))])
theorem c_next_counter (C : CallT) : stmsBy (sn G EI U C fuelE fuelE) d_next_counter.body ⟨d_next_counter.N, d_next_counter.sc, fun _ => true⟩ = m_next_counter C := by kernel_rfl
def m_order_of_falls (C : CallT) : SM := (sSeq [(sSet 1 (listRgE (V (lenE (pVar 0))))), (sSet 2 (lstE [])), (sWh (truE (pVar 1)) (sSeq [(sFrz [1] (sSet 3 (callC C "next_counter" [(V (vVar 0)), (V (vVar 1))]))), (sIf (cmpE .Is (pVar 3) (V (kE .non))) (sSeq [(sRaise EI "Stuck" [(V (bltE "tuple" (pVar 1)))])]) (sSeq [])), (sMut 2 "append" [(V (vVar 3))] (fun _ => sNx)), (sSet 1 (lcM (tgN 4) (cmpE .NotEq (V (ixE (V (ixE (pVar 0) (V (vVar 4)))) (V (vVar 3)))) (V (kE (.int 1)))) (V (vVar 4)) [4] (itX (pVar 1))))])), (sRet (bltE "tuple" (pVar 2)))])
theorem c_order_of_falls (C : CallT) : stmsBy (sn G EI U C fuelE fuelE) d_order_of_falls.body ⟨d_order_of_falls.N, d_order_of_falls.sc, fun _ => true⟩ = m_order_of_falls C := by kernel_rfl
def m__law_stream (C : CallT) : SM := (sSeq [(sSet 1 (kE (.int 17))), (sFor (tgN 2) (itX (V (vVar 0))) (sSeq [(sSet 1 (binE .Mod (V (bltE "int" (V (binE .Add (V (binE .Add (V (binE .Mult (pVar 1) (V (kE (.int 48271))))) (V (binE .Mod (V (bltE "int" (pVar 2))) (V (kE (.int 65521))))))) (V (kE (.int 1))))))) (V (kE (.int 2147483647)))))])), (sRet (lstE [(V (listE (pVar 0))), (V (kE (.int 0))), (V (kE (.int 0))), (V (vVar 1))]))])
theorem c__law_stream (C : CallT) : stmsBy (sn G EI U C fuelE fuelE) d__law_stream.body ⟨d__law_stream.N, d__law_stream.sc, fun _ => true⟩ = m__law_stream C := by kernel_rfl
def m__law_draw (C : CallT) : SM := (sSeq [(sIf (tAllE [(cmpE .Eq (V (ixE (pVar 0) (V (kE (.int 1))))) (V (kE (.int 0)))), (cmpE .Lt (V (ixE (pVar 0) (V (kE (.int 2))))) (V (lenE (V (ixE (pVar 0) (V (kE (.int 0))))))))]) (sSeq [(sSub 0 (V (kE (.int 1))) (V (bltE "abs" (V (bltE "int" (V (ixE (V (ixE (pVar 0) (V (kE (.int 0))))) (V (ixE (pVar 0) (V (kE (.int 2)))))))))))), (sSub 0 (V (kE (.int 2))) (V (binE .Add (V (ixE (pVar 0) (V (kE (.int 2))))) (V (kE (.int 1))))))]) (sSeq [])), (sIf (cmpE .Eq (V (ixE (pVar 0) (V (kE (.int 1))))) (V (kE (.int 0)))) (sSeq [(sSub 0 (V (kE (.int 3))) (V (binE .Mod (V (bltE "int" (V (binE .Add (V (binE .Mult (V (ixE (pVar 0) (V (kE (.int 3))))) (V (kE (.int 48271))))) (V (kE (.int 11))))))) (V (kE (.int 2147483647)))))), (sRet (binE .Mod (V (bltE "int" (V (binE .FloorDiv (V (ixE (pVar 0) (V (kE (.int 3))))) (V (kE (.int 97))))))) (pVar 1)))]) (sSeq [])), (sSet 2 (binE .Mod (V (bltE "int" (V (ixE (pVar 0) (V (kE (.int 1))))))) (pVar 1))), (sSub 0 (V (kE (.int 1))) (V (binE .FloorDiv (V (ixE (pVar 0) (V (kE (.int 1))))) (pVar 1)))), (sRetV 2)])
theorem c__law_draw (C : CallT) : stmsBy (sn G EI U C fuelE fuelE) d__law_draw.body ⟨d__law_draw.N, d__law_draw.sc, fun _ => true⟩ = m__law_draw C := by kernel_rfl
def m__law_pick (C : CallT) : SM := (sSeq [(sRet (ixE (pVar 1) (V (callC C "_law_draw" [(V (vVar 0)), (V (lenE (pVar 1)))]))))])
theorem c__law_pick (C : CallT) : stmsBy (sn G EI U C fuelE fuelE) d__law_pick.body ⟨d__law_pick.N, d__law_pick.sc, fun _ => true⟩ = m__law_pick C := by kernel_rfl
def m__law_mixed (C : CallT) : SM := (sSeq [(sSet 2 (listE (pVar 1))), (sSet 3 (lstE [])), (sFor (tgN 4) (itR1 (V (lenE (pVar 1)))) (sSeq [(sMut2 3 2 "pop" [(V (callC C "_law_draw" [(V (vVar 0)), (V (lenE (pVar 2)))]))])])), (sRetV 3)])
theorem c__law_mixed (C : CallT) : stmsBy (sn G EI U C fuelE fuelE) d__law_mixed.body ⟨d__law_mixed.N, d__law_mixed.sc, fun _ => true⟩ = m__law_mixed C := by kernel_rfl
def m__law_ordered (C : CallT) : SM := (sSeq [(sSet 3 (callC C "_law_mixed" [(V (vVar 0)), (V (listRgE (V (vVar 2))))])), (sSet 4 (lstE [])), (sFor (tgN 5) (itR1 (V (vVar 1))) (sSeq [(sSet 6 (callC C "_law_draw" [(V (vVar 0)), (V (vVar 2))])), (sSet 7 (binE .Mult (V (lstE [(V (kE (.int 0)))])) (pVar 2))), (sSub 7 (V (ixE (pVar 3) (V (vVar 6)))) (V (kE (.int 1)))), (sFor (tgN 8) (itX (V (slE (pVar 3) (oS (V (binE .Add (pVar 6) (V (kE (.int 1)))))) oN))) (sSeq [(sSub 7 (V (vVar 8)) (V (callC C "_law_draw" [(V (vVar 0)), (V (kE (.int 3)))])))])), (sMut 4 "append" [(V (bltE "tuple" (pVar 7)))] (fun _ => sNx))])), (sRetV 4)])
theorem c__law_ordered (C : CallT) : stmsBy (sn G EI U C fuelE fuelE) d__law_ordered.body ⟨d__law_ordered.N, d__law_ordered.sc, fun _ => true⟩ = m__law_ordered C := by kernel_rfl
def m__law_drawn (C : CallT) : SM := (sSeq [(sSet 1 (binE .Add (V (kE (.int 1))) (V (callC C "_law_draw" [(V (vVar 0)), (V (ixE (V (lstE [(V (kE (.int 4))), (V (kE (.int 12))), (V (kE (.int 40)))])) (V (callC C "_law_draw" [(V (vVar 0)), (V (kE (.int 3)))]))))])))), (sSet 2 (binE .Add (V (kE (.int 1))) (V (callC C "_law_draw" [(V (vVar 0)), (V (kE (.int 8)))])))), (sSet 3 (callC C "_law_ordered" [(V (vVar 0)), (V (vVar 1)), (V (vVar 2))])), (sFor (tgN 4) (itR1 (V (callC C "_law_draw" [(V (vVar 0)), (V (kE (.int 3)))]))) (sSeq [(sSet 5 (callC C "_law_draw" [(V (vVar 0)), (V (vVar 1))])), (sSet 6 (lcM (tgN 7) yesE (V (callC C "_law_draw" [(V (vVar 0)), (V (kE (.int 3)))])) [7] (itR1 (V (vVar 2))))), (sSub 6 (V (callC C "_law_draw" [(V (vVar 0)), (V (vVar 2))])) (V (kE (.int 1)))), (sSub 3 (V (vVar 5)) (V (bltE "tuple" (pVar 6))))])), (sRet (bltE "tuple" (pVar 3)))])
theorem c__law_drawn (C : CallT) : stmsBy (sn G EI U C fuelE fuelE) d__law_drawn.body ⟨d__law_drawn.N, d__law_drawn.sc, fun _ => true⟩ = m__law_drawn C := by kernel_rfl
def m__law_is_rule (C : CallT) : SM := (sSeq [(sIf (tAnyE [(tNotE (truE (V (isiE "tuple" (pVar 0))))), (cmpE .NotEq (V (lenE (pVar 0))) (pVar 1))]) (sSeq [(sRet (kE (.bl false)))]) (sSeq [])), (sIf (tNotE (truE (V (bltE "all" (V (lcM (tgN 2) yesE (V (andE [(V (isiE "int" (pVar 2))), (V (notE (V (isiE "bool" (pVar 2))))), (V (blE (chE .LtE .Lt (V (kE (.int 0))) (pVar 2) (V (kE (.int 3))))))])) [2] (itX (pVar 0)))))))) (sSeq [(sRet (kE (.bl false)))]) (sSeq [])), (sRet (blE (cmpE .In (V (kE (.int 1))) (pVar 0))))])
theorem c__law_is_rule (C : CallT) : stmsBy (sn G EI U C fuelE fuelE) d__law_is_rule.body ⟨d__law_is_rule.N, d__law_is_rule.sc, fun _ => true⟩ = m__law_is_rule C := by kernel_rfl
def m__law_is_machine (C : CallT) : SM := (sSeq [(sIf (tAnyE [(tNotE (truE (V (isiE "tuple" (pVar 0))))), (tNotE (chE .LtE .LtE (V (kE (.int 1))) (V (lenE (pVar 0))) (V (kE (.int 40))))), (tNotE (truE (V (isiE "tuple" (V (ixE (pVar 0) (V (kE (.int 0)))))))))]) (sSeq [(sRet (kE (.bl false)))]) (sSeq [])), (sRet (andE [(V (blE (chE .LtE .LtE (V (kE (.int 1))) (V (lenE (V (ixE (pVar 0) (V (kE (.int 0))))))) (V (kE (.int 8)))))), (V (bltE "all" (V (lcM (tgN 1) yesE (V (callC C "_law_is_rule" [(V (vVar 1)), (V (lenE (V (ixE (pVar 0) (V (kE (.int 0)))))))])) [1] (itX (pVar 0))))))]))])
theorem c__law_is_machine (C : CallT) : stmsBy (sn G EI U C fuelE fuelE) d__law_is_machine.body ⟨d__law_is_machine.N, d__law_is_machine.sc, fun _ => true⟩ = m__law_is_machine C := by kernel_rfl
def m__law_odd (C : CallT) : SM := (sSeq [(sSet 1 (lstE [(V (tupE [])), (V (kE .non)), (V (kE (.bl true))), (V (kE (.bl false))), (V (kE (.int 3))), (V (negE (V (kE (.int 1))))), (V (binE .Pow (V (kE (.int 10))) (V (kE (.int 30))))), (V (kE (.str ""))), (V (kE (.str "1"))), (V (tupE [(V (kE (.int 1)))])), (V (tupE [(V (tupE [(V (kE (.int 1)))]))])), (V (tupE [(V (kE (.int 0)))])), (V (tupE [(V (kE (.bl true)))])), (V (tupE [(V (kE .non)), (V (kE (.int 1)))])), (V (tupE [(V (tupE [(V (kE (.int 1)))])), (V (tupE [(V (kE (.int 1))), (V (kE (.int 1)))]))])), (V (tupE [(V (tupE [(V (tupE [(V (kE (.int 1)))]))]))]))])), (sSet 1 (binE .Add (pVar 1) (V (lstE [(V (lstE [(V (kE (.int 1)))])), (V (lstE [(V (lstE [(V (kE (.int 1)))]))])), (V (lstE [(V (tupE [(V (kE (.int 1)))]))])), (V (tupE [(V (lstE [(V (kE (.int 1)))]))])), (V (tupE [(V (tupE [(V (kE (.int 1))), (V (kE (.int 0)))])), (V (lstE [(V (kE (.int 0))), (V (kE (.int 1)))]))])), (V (lstE []))])))), (sFrz [1] (sRet (callC C "_law_pick" [(V (vVar 0)), (V (vVar 1))])))])
theorem c__law_odd (C : CallT) : stmsBy (sn G EI U C fuelE fuelE) d__law_odd.body ⟨d__law_odd.N, d__law_odd.sc, fun _ => true⟩ = m__law_odd C := by kernel_rfl
def m__law_exchanged (C : CallT) : SM := (sSeq [(sSet 3 (callC C "_law_draw" [(V (vVar 0)), (V (kE (.int 4)))])), (sIf (tAllE [(cmpE .Gt (pVar 2) (V (kE (.int 0)))), (truE (V (isiE "tuple" (pVar 1)))), (truE (pVar 1)), (cmpE .Gt (pVar 3) (V (kE (.int 0))))]) (sSeq [(sSet 4 (callC C "_law_draw" [(V (vVar 0)), (V (lenE (pVar 1)))])), (sRet (binE .Add (V (binE .Add (V (slE (pVar 1) oN (oS (V (vVar 4))))) (V (tupE [(V (callC C "_law_exchanged" [(V (vVar 0)), (V (ixE (pVar 1) (V (vVar 4)))), (V (binE .Sub (pVar 2) (V (kE (.int 1)))))]))])))) (V (slE (pVar 1) (oS (V (binE .Add (pVar 4) (V (kE (.int 1)))))) oN))))]) (sSeq [])), (sIf (tAllE [(cmpE .Eq (pVar 3) (V (kE (.int 1)))), (truE (V (isiE "tuple" (pVar 1))))]) (sSeq [(sRet (binE .Add (pVar 1) (V (slE (pVar 1) oN (oS (V (kE (.int 1))))))))]) (sSeq [])), (sIf (tAllE [(cmpE .Eq (pVar 3) (V (kE (.int 2)))), (truE (V (isiE "tuple" (pVar 1))))]) (sSeq [(sRet (slE (pVar 1) (oS (V (kE (.int 1)))) oN))]) (sSeq [])), (sRet (callC C "_law_odd" [(V (vVar 0))]))])
theorem c__law_exchanged (C : CallT) : stmsBy (sn G EI U C fuelE fuelE) d__law_exchanged.body ⟨d__law_exchanged.N, d__law_exchanged.sc, fun _ => true⟩ = m__law_exchanged C := by kernel_rfl
def m__law_value (C : CallT) : SM := (sSeq [(sSet 1 (callC C "_law_drawn" [(V (vVar 0))])), (sSet 2 (callC C "_law_draw" [(V (vVar 0)), (V (kE (.int 6)))])), (sIf (cmpE .Eq (pVar 2) (V (kE (.int 0)))) (sSeq [(sRet (slE (V (binE .Mult (pVar 1) (V (kE (.int 41))))) oN (oS (V (binE .Add (V (kE (.int 39))) (V (callC C "_law_draw" [(V (vVar 0)), (V (kE (.int 3)))])))))))]) (sSeq [])), (sIf (cmpE .Eq (pVar 2) (V (kE (.int 1)))) (sSeq [(sSet 3 (binE .Add (V (kE (.int 7))) (V (callC C "_law_draw" [(V (vVar 0)), (V (kE (.int 3)))])))), (sRet (bltE "tuple" (V (lcM (tgN 4) yesE (V (slE (V (binE .Mult (pVar 4) (V (kE (.int 9))))) oN (oS (V (vVar 3))))) [4] (itX (pVar 1))))))]) (sSeq [])), (sIf (cmpE .Eq (pVar 2) (V (kE (.int 2)))) (sSeq [(sRet (binE .Add (V (bltE "tuple" (V (lcM (tgN 4) yesE (V (bltE "tuple" (V (lcM (tgN 5) yesE (V (ifE (cmpE .Eq (pVar 5) (V (kE (.int 1)))) (kE (.int 0)) (vVar 5))) [5] (itX (pVar 4)))))) [4] (itX (V (slE (pVar 1) oN (oS (V (kE (.int 1))))))))))) (V (slE (pVar 1) (oS (V (kE (.int 1)))) oN))))]) (sSeq [])), (sIf (cmpE .Eq (pVar 2) (V (kE (.int 3)))) (sSeq [(sRet (callC C "_law_odd" [(V (vVar 0))]))]) (sSeq [])), (sRet (callC C "_law_exchanged" [(V (vVar 0)), (V (vVar 1)), (V (callC C "_law_draw" [(V (vVar 0)), (V (kE (.int 3)))]))]))])
theorem c__law_value (C : CallT) : stmsBy (sn G EI U C fuelE fuelE) d__law_value.body ⟨d__law_value.N, d__law_value.sc, fun _ => true⟩ = m__law_value C := by kernel_rfl
def m__law_due (C : CallT) : SM := (sSeq [(sSet 1 (listRgE (V (lenE (pVar 0))))), (sSet 2 (lstE [])), (sFor (tgN 3) (itR1 (V (lenE (V (ixE (pVar 0) (V (kE (.int 0)))))))) (sSeq [(sSet 4 (lcM (tgN 5) (tAllE [(cmpE .NotIn (pVar 5) (pVar 2)), (truE (V (bltE "any" (V (lcM (tgN 6) yesE (V (blE (cmpE .Eq (V (ixE (V (ixE (pVar 0) (V (vVar 6)))) (V (vVar 5)))) (V (kE (.int 1)))))) [6] (itX (pVar 1)))))))]) (V (vVar 5)) [5] (itR1 (V (lenE (V (ixE (pVar 0) (V (kE (.int 0)))))))))), (sSet 4 (lcM (tgN 5) (tNotE (truE (V (bltE "any" (V (lcM (tgN 6) yesE (V (blE (cmpE .Eq (V (ixE (V (ixE (pVar 0) (V (vVar 6)))) (V (vVar 5)))) (V (kE (.int 2)))))) [6] (itX (pVar 1)))))))) (V (vVar 5)) [5] (itX (pVar 4)))), (sIf (truE (pVar 4)) (sSeq [(sMut 2 "append" [(V (ixE (pVar 4) (V (kE (.int 0)))))] (fun _ => sNx)), (sSet 1 (lcM (tgN 6) (cmpE .NotEq (V (ixE (V (ixE (pVar 0) (V (vVar 6)))) (V (ixE (pVar 4) (V (kE (.int 0))))))) (V (kE (.int 1)))) (V (vVar 6)) [6] (itX (pVar 1))))]) (sSeq []))])), (sRet (lstE [(V (bltE "tuple" (pVar 2))), (V (bltE "tuple" (pVar 1)))]))])
theorem c__law_due (C : CallT) : stmsBy (sn G EI U C fuelE fuelE) d__law_due.body ⟨d__law_due.N, d__law_due.sc, fun _ => true⟩ = m__law_due C := by kernel_rfl
def m__law_same (C : CallT) : SM := (sSeq [(sIf (tAnyE [(tNotE (truE (V (isiE "tuple" (pVar 0))))), (tNotE (truE (V (bltE "all" (V (lcM (tgN 2) yesE (V (andE [(V (isiE "int" (pVar 2))), (V (notE (V (isiE "bool" (pVar 2)))))])) [2] (itX (pVar 0))))))))]) (sSeq [(sRet (kE (.bl false)))]) (sSeq [])), (sRet (blE (cmpE .Eq (pVar 0) (pVar 1))))])
theorem c__law_same (C : CallT) : stmsBy (sn G EI U C fuelE fuelE) d__law_same.body ⟨d__law_same.N, d__law_same.sc, fun _ => true⟩ = m__law_same C := by kernel_rfl
def m__law_is_told (C : CallT) : SM := (sSeq [(sSet 1 (callC C "_law_due" [(V (vVar 0))])), (tryMS C), (sRet (andE [(V (blE (cmpE .Eq (V (ixE (pVar 1) (V (kE (.int 1))))) (V (tupE []))))), (V (callC C "_law_same" [(V (vVar 3)), (V (ixE (pVar 1) (V (kE (.int 0)))))]))]))])
theorem c__law_is_told (C : CallT) : stmsBy (sn G EI U C fuelE fuelE) d__law_is_told.body ⟨d__law_is_told.N, d__law_is_told.sc, fun _ => true⟩ = m__law_is_told C := by 
  have hb : d__law_is_told.body = [s_told 0, tryS, s_told 2] := by kernel_rfl
  have h0 : sn G EI U C fuelE fuelE F_told (s_told 0) = sSet 1 (callC C "_law_due" [V (vVar 0)]) := by kernel_rfl
  have h2 : stmsBy (sn G EI U C fuelE fuelE) [s_told 2] F_told = sSeq [sRet (andE [(V (blE (cmpE .Eq (V (ixE (pVar 1) (V (kE (.int 1))))) (V (tupE []))))), (V (callC C "_law_same" [(V (vVar 3)), (V (ixE (pVar 1) (V (kE (.int 0)))))]))])] := by kernel_rfl
  have h1 : sn G EI U C fuelE fuelE F_told tryS = tryMS C := by
    have e : sn G EI U C fuelE fuelE F_told tryS = fun σ T => (match U C (dn G C fuelE) F_told tryS with
      | some m => m
      | none => stepStm G EI C (dn G C fuelE) (stmsBy (sn G EI U C fuelE 29)) F_told tryS) σ T := rfl
    rw [e, U_try]
    kernel_rfl
  rw [hb]
  show (fun σ T => (sn G EI U C fuelE fuelE F_told (s_told 0) σ T).seq fun σ T => (sn G EI U C fuelE fuelE F_told tryS σ T).seq (stmsBy (sn G EI U C fuelE fuelE) [s_told 2] F_told)) = _
  rw [h0, h1, h2]
  rfl
def m_law (C : CallT) : SM := (sSeq [(sSetR 1 (callC C "_law_stream" [(V (vVar 0))])), (sFor (tgN 2) (itR1 (V (kE (.int 3)))) (sSeq [(sSet 3 (callC C "_law_drawn" [(V (vVar 1))])), (sIf (tAnyE [(cmpE .IsNot (V (callC C "is_machine" [(V (vVar 3))])) (V (kE (.bl true)))), (tNotE (truE (V (callC C "_law_is_told" [(V (vVar 3))])))), (tNotE (truE (V (callC C "_law_is_told" [(V (vVar 3))]))))]) (sSeq [(sRet (kE (.bl false)))]) (sSeq [])), (sSet 4 (callC C "_law_value" [(V (vVar 1))])), (sSet 5 (callC C "is_machine" [(V (vVar 4))])), (sIf (tAnyE [(tNotE (truE (V (isiE "bool" (pVar 5))))), (cmpE .NotEq (pVar 5) (V (callC C "_law_is_machine" [(V (vVar 4))])))]) (sSeq [(sRet (kE (.bl false)))]) (sSeq []))])), (sRet (kE (.bl true)))])
theorem c_law (C : CallT) : stmsBy (sn G EI U C fuelE fuelE) d_law.body ⟨d_law.N, d_law.sc, fun _ => true⟩ = m_law C := by kernel_rfl
end K76


set_option Elab.async false
set_option linter.all false
set_option maxRecDepth 100000
set_option maxHeartbeats 4000000
namespace K76
open PySem hiding Env
open Mi
def finR : RS → Res (D × Bool)
  | .nx _ T => .ok (.non, false) T
  | .rt d b T => .ok (d, b) T
  | .ex x _ T => .ex x T
  | _ => .bad
@[simp] theorem finR_nx (σ : Env) (T : Sto) : finR (.nx σ T) = .ok (.non, false) T := rfl
@[simp] theorem finR_rt (d : D) (b : Bool) (T : Sto) : finR (.rt d b T) = .ok (d, b) T := rfl
@[simp] theorem finR_ex (x : Xn) (σ : Env) (T : Sto) : finR (.ex x σ T) = .ex x T := rfl
theorem cl_succ {n : Nat} {f : Str} {d : Df} {ds : List D} {T : Sto} {m : SM} (h : tab.lookup f = some d) (hl : ds.length = d.np) (c : stmsBy (sn G EI U (cl n) fuelE fuelE) d.body ⟨d.N, d.sc, fun _ => true⟩ = m) : cl (n + 1) f ds T = finR (m (startE d ds) T) := by
  show (match tab.lookup f with
    | some d => runDf G EI U (cl n) fuelE fuelE d ds T
    | none => .bad) = _
  rw [h]
  show runDf G EI U (cl n) fuelE fuelE d ds T = _
  unfold runDf
  rw [if_pos hl, c]
  cases m (startE d ds) T <;> rfl
theorem r_draw (n : Nat) (a b : D) (T : Sto) : cl (n + 1) "_law_draw" [a, b] T = finR (m__law_draw (cl n) [.fz a, .fz b, .no] T) := cl_succ (d := d__law_draw) (by kernel_rfl) (by kernel_rfl) (c__law_draw _)
/-! ### the stream -/
/-- script, stream -/
abbrev St (fr : Ob) (cs : List D) (a p x : Int) : Sto := [fr, .lst [.lst cs, .int a, .int p, .int x]]
def StO (T : Sto) : Prop := ∃ fr cs a p x, T = St fr cs a p x ∧ (∀ c ∈ cs, ∃ i : Int, c = .int i) ∧ 0 ≤ p ∧ 0 ≤ x ∧ x < 2147483647
def Small (m : Int) : Prop := 0 < m ∧ m ≤ 1000
theorem itemS (i : Int) (n : Nat) {ds : List D} {d : D} {σ : Env} {T : Sto} (hi : i = n) (h : ds[n]? = some d) : itemM (.lst ds) (.int i) σ T = .ok d T := by
  subst hi
  exact itemL h
section
variable {σ : Env} {T : Sto}
@[simp] theorem it4_2 (a b c d : D) : itemM (.lst [a, b, c, d]) (.int 2) σ T = .ok c T := itemL (i := 2) rfl
@[simp] theorem it4_3 (a b c d : D) : itemM (.lst [a, b, c, d]) (.int 3) σ T = .ok d T := itemL (i := 3) rfl
@[simp] theorem st4_1 (fr : Ob) (a b c d e : D) (k : Nat) : setG (some (.fz (.obj 1))) k (.int 1) e σ [fr, .lst [a, b, c, d]] = .nx σ [fr, .lst [a, e, c, d]] := setG_obj (xs := [a, b, c, d]) (j := 1) rfl (by decide) (show (1 : Int) < ((4 : Nat) : Int) by decide)
@[simp] theorem st4_2 (fr : Ob) (a b c d e : D) (k : Nat) : setG (some (.fz (.obj 1))) k (.int 2) e σ [fr, .lst [a, b, c, d]] = .nx σ [fr, .lst [a, b, e, d]] := setG_obj (xs := [a, b, c, d]) (j := 2) rfl (by decide) (show (2 : Int) < ((4 : Nat) : Int) by decide)
@[simp] theorem st4_3 (fr : Ob) (a b c d e : D) (k : Nat) : setG (some (.fz (.obj 1))) k (.int 3) e σ [fr, .lst [a, b, c, d]] = .nx σ [fr, .lst [a, b, c, e]] := setG_obj (xs := [a, b, c, d]) (j := 3) rfl (by decide) (show (3 : Int) < ((4 : Nat) : Int) by decide)
end
theorem StO.mk' {fr : Ob} {cs : List D} {a p x : Int} (h : ∀ c ∈ cs, ∃ i : Int, c = .int i) (h1 : 0 ≤ p) (h2 : 0 ≤ x) (h3 : x < 2147483647) : StO (St fr cs a p x) := ⟨fr, cs, a, p, x, rfl, h, h1, h2, h3⟩
theorem draw_ok (n : Nat) {T : Sto} {m : Int} (hT : StO T) (hm : Small m) : ∃ v T', cl (n + 1) "_law_draw" [.obj 1, .int m] T = .ok (.int v, false) T' ∧ StO T' ∧ 0 ≤ v ∧ v < m := by
  obtain ⟨fr, cs, a, p, x, rfl, hcs, hp, hx, hx2⟩ := hT
  obtain ⟨hm0, hm1⟩ := hm
  have hm2 : m < 1267650600228229401496703205376 := by omega
  have hx3 : x < 1267650600228229401496703205376 := by omega
  have k1 : 0 ≤ (x * 48271 + 11) % 2147483647 := Int.emod_nonneg _ (by decide)
  have k2 : (x * 48271 + 11) % 2147483647 < 2147483647 := Int.emod_lt_of_pos _ (by decide)
  have v1 : ∀ y : Int, 0 ≤ y % m ∧ y % m < m := fun y => ⟨Int.emod_nonneg _ (by omega), Int.emod_lt_of_pos _ hm0⟩
  rw [r_draw]
  by_cases ha : a = 0
  · subst ha
    by_cases hl : p < cs.length
    · obtain ⟨q, rfl⟩ := Int.eq_ofNat_of_zero_le hp
      have hq : q < cs.length := by omega
      obtain ⟨i, hi⟩ := hcs _ (List.getElem_mem hq)
      have hi : cs[q]? = some (.int i) := by rw [List.getElem?_eq_getElem hq, hi]
      have hit : ∀ (σ : Env) (T : Sto), itemM (.lst cs) (.int (q : Int)) σ T = .ok (.int i) T := fun _ _ => itemL hi
      by_cases h0 : i = 0
      · subst h0
        simp [m__law_draw, hl, hit, hx, hx3, hm0]
        exact ⟨_, _, ⟨rfl, rfl⟩, StO.mk' hcs (by omega) k1 k2, v1 _⟩
      · have h1 : (if i < 0 then -i else i) ≠ 0 := by split <;> omega
        simp [m__law_draw, hl, hit, h1, hm0, hm2]
        exact ⟨_, _, ⟨rfl, rfl⟩, StO.mk' hcs (by omega) hx hx2, v1 _⟩
    · simp [m__law_draw, hl, hx, hx3, hm0]
      exact ⟨_, _, ⟨rfl, rfl⟩, StO.mk' hcs hp k1 k2, v1 _⟩
  · simp [m__law_draw, ha, hm0, hm2]
    exact ⟨_, _, ⟨rfl, rfl⟩, StO.mk' hcs hp hx hx2, v1 _⟩
end K76


set_option Elab.async false
set_option linter.all false
set_option maxRecDepth 100000
set_option maxHeartbeats 4000000
namespace K76
open PySem hiding Env
open Mi
/-! ### what is drawn -/
def iL (ns : List Int) : List D := ns.map .int
@[simp] theorem iL_len (ns : List Int) : (iL ns).length = ns.length := by simp [iL]
theorem iL_nil : iL [] = [] := rfl
theorem iL_cons (n : Int) (ns : List Int) : iL (n :: ns) = .int n :: iL ns := rfl
theorem iL_app (ms ns : List Int) : iL (ms ++ ns) = iL ms ++ iL ns := by simp [iL]
theorem iL_get {ns : List Int} {i : Nat} {n : Int} (h : ns[i]? = some n) : (iL ns)[i]? = some (.int n) := by simp [iL, h]
theorem iL_set (ns : List Int) (i : Nat) (n : Int) : (iL ns).set i (.int n) = iL (ns.set i n) := by simp [iL]
theorem iL_drop (ns : List Int) (i : Nat) : (iL ns).drop i = iL (ns.drop i) := by simp [iL]
theorem iL_take (ns : List Int) (i : Nat) : (iL ns).take i = iL (ns.take i) := by simp [iL]
def itmO (o : Option Ob) : EM (List D) := fun _ T => match o with
  | some (.frz ds) => .ok ds T
  | _ => .bad
section
variable {σ : Env} {T : Sto}
@[simp] theorem ev_itmO (n : Nat) : itemsM (.obj n) σ T = itmO T[n]? σ T := rfl
@[simp] theorem itmO_frz (ds : List D) : itmO (some (.frz ds)) σ T = .ok ds T := rfl
def lstO (o : Option Ob) : EM (D × Bool) := fun _ T => match o with
  | some (.frz ds) => .ok (.lst ds, true) T
  | _ => .bad
@[simp] theorem ev_lstO (n : Nat) : listM (.obj n) σ T = lstO T[n]? σ T := rfl
@[simp] theorem lstO_frz (ds : List D) : lstO (some (.frz ds)) σ T = .ok (.lst ds, true) T := rfl
end
theorem r_stream (n : Nat) (a : D) (T : Sto) : cl (n + 1) "_law_stream" [a] T = finR (m__law_stream (cl n) [.fz a, .no, .no] T) := cl_succ (d := d__law_stream) (by kernel_rfl) (by kernel_rfl) (c__law_stream _)
theorem stream_ok (n : Nat) (sc : List Int) : ∃ x, cl (n + 1) "_law_stream" [.obj 0] [.frz (iL sc)] = .ok (.lst [.lst (iL sc), .int 0, .int 0, .int x], true) [.frz (iL sc)] ∧ 0 ≤ x ∧ x < 2147483647 := by
  rw [r_stream]
  simp [m__law_stream]
  refine for_then (P := fun r => ∃ x, finR r = .ok (.lst [.lst (iL sc), .int 0, .int 0, .int x], true) [.frz (iL sc)] ∧ 0 ≤ x ∧ x < 2147483647)
    (fun ds σ T => (∃ ns, ds = iL ns) ∧ T = [.frz (iL sc)] ∧ ∃ x s, σ = [.fz (.obj 0), .fz (.int x), s] ∧ 0 ≤ x ∧ x < 2147483647) ?_ ⟨⟨sc, rfl⟩, rfl, 17, .no, rfl, by decide, by decide⟩ ?_
  · rintro d ds σ T ⟨⟨ns, hn⟩, rfl, x, s, rfl, h0, h1⟩
    cases ns with
    | nil => cases hn
    | cons i ns =>
      cases hn
      have h2 : x < 1267650600228229401496703205376 := by omega
      refine ⟨_, _, _, rfl, by simp [h0, h2]; exact ⟨rfl, rfl⟩, ⟨ns, rfl⟩, rfl, _, _, rfl, Int.emod_nonneg _ (by decide), Int.emod_lt_of_pos _ (by decide)⟩
  · rintro σ T ⟨_, rfl, x, s, rfl, h0, h1⟩
    exact ⟨x, by simp, h0, h1⟩
theorem r_mixed (n : Nat) (a b : D) (T : Sto) : cl (n + 1) "_law_mixed" [a, b] T = finR (m__law_mixed (cl n) [.fz a, .fz b, .no, .no, .no] T) := cl_succ (d := d__law_mixed) (by kernel_rfl) (by kernel_rfl) (c__law_mixed _)
theorem map_erase {α β : Type} (f : α → β) : ∀ (l : List α) (n : Nat), (l.map f).eraseIdx n = (l.eraseIdx n).map f
  | [], n => by simp
  | a :: l, 0 => by simp
  | a :: l, n + 1 => by simp [map_erase f l n]
theorem perm_erase {α : Type} : ∀ (l : List α) (n : Nat) (a : α), l[n]? = some a → l.Perm (a :: l.eraseIdx n)
  | [], n, a, h => by simp at h
  | b :: l, 0, a, h => by
    have : b = a := by simpa using h
    subst this
    simp
  | b :: l, n + 1, a, h => by
    have h : l[n]? = some a := by simpa using h
    simp only [List.eraseIdx_cons_succ]
    exact (List.Perm.cons b (perm_erase l n a h)).trans (List.Perm.swap ..)
theorem mixed_ok (n : Nat) {T : Sto} (hT : StO T) (ns : List Int) (hl : ns.length ≤ 1000) : ∃ os T', cl (n + 2) "_law_mixed" [.obj 1, .lst (iL ns)] T = .ok (.lst (iL os), true) T' ∧ StO T' ∧ os.Perm ns := by
  rw [r_mixed]
  have h1 : ns.length ≤ 16777216 := by omega
  simp [m__law_mixed, h1]
  refine for_then (P := fun r => ∃ os T', finR r = .ok (.lst (iL os), true) T' ∧ StO T' ∧ os.Perm ns)
    (fun ds σ T => StO T ∧ ∃ ls fs s, σ = [.fz (.obj 1), .fz (.lst (iL ns)), .ow (.lst (iL ls)), .ow (.lst (iL fs)), s] ∧ ds.length = ls.length ∧ (fs ++ ls).Perm ns) ?_ ⟨hT, ns, [], .no, rfl, by simp [rangeD], by simp⟩ ?_
  · rintro d ds σ T ⟨hT, ls, fs, s, rfl, hd, hp⟩
    have hll := hp.length_eq
    simp only [List.length_append] at hll
    simp only [List.length_cons] at hd
    obtain ⟨v, T', e, hT', v0, v1⟩ := draw_ok n hT (m := (ls.length : Int)) ⟨by omega, by omega⟩
    obtain ⟨q, rfl⟩ := Int.eq_ofNat_of_zero_le v0
    have hq : q < ls.length := by omega
    have hg : ls[q]? = some ls[q] := List.getElem?_eq_getElem hq
    have hpop : ∀ (i : Nat) (k : D → SM) (σ : Env) (T : Sto), mutG (some (.ow (.lst (iL ls)))) i "pop" [.int (q : Int)] k σ T = k (.int ls[q]) (σ.set i (.ow (.lst (iL (ls.eraseIdx q))))) T := fun i k σ T => by
      rw [mutG_popN (d := .int ls[q]) (by omega) (iL_get hg), iL, map_erase]
      rfl
    have hf : fs.length < 16777216 := by omega
    refine ⟨_, _, _, rfl, by simp [e, hpop, hf]; rfl, hT', ls.eraseIdx q, fs ++ [ls[q]], _, by rw [iL_app]; rfl, ?_, ?_⟩
    · rw [List.length_eraseIdx_of_lt hq]
      omega
    · refine List.Perm.trans ?_ hp
      rw [List.append_assoc]
      exact List.Perm.append_left fs (perm_erase ls q _ hg).symm
  · rintro σ T ⟨hT, ls, fs, s, rfl, hd, hp⟩
    have : ls = [] := List.length_eq_zero_iff.mp hd.symm
    subst this
    exact ⟨fs, T, by simp, hT, by simpa using hp⟩
def rg (n : Nat) : List Int := (List.range n).map fun (i : Nat) => (i : Int)
theorem rangeD0 (n : Nat) : rangeD 0 n = iL (rg n) := by
  unfold rangeD rg
  simp [iL, Function.comp_def]
end K76


set_option Elab.async false
set_option linter.all false
set_option maxRecDepth 100000
set_option maxHeartbeats 4000000
namespace K76
open PySem hiding Env
open Mi
def RuleOk (c : Nat) (r : List Int) : Prop := r.length = c ∧ (∀ x ∈ r, 0 ≤ x ∧ x < 3) ∧ (1 : Int) ∈ r
abbrev tupI (r : List Int) : D := .tup (iL r)
theorem r_ordered (n : Nat) (a b c : D) (T : Sto) : cl (n + 1) "_law_ordered" [a, b, c] T = finR (m__law_ordered (cl n) [.fz a, .fz b, .fz c, .no, .no, .no, .no, .no, .no] T) := cl_succ (d := d__law_ordered) (by kernel_rfl) (by kernel_rfl) (c__law_ordered _)
theorem rg_len (n : Nat) : (rg n).length = n := by simp [rg]
theorem rg_mem {n : Nat} {x : Int} : x ∈ rg n ↔ ∃ i : Nat, i < n ∧ x = i := by
  simp [rg]
  constructor
  · rintro ⟨i, h, rfl⟩
    exact ⟨i, h, rfl⟩
  · rintro ⟨i, h, rfl⟩
    exact ⟨i, h, rfl⟩
theorem rg_nodup (n : Nat) : (rg n).Nodup := by
  unfold rg List.Nodup
  rw [List.pairwise_map]
  exact List.nodup_range.imp fun h e => h (by omega)
theorem mul0 (c : Nat) (h1 : c ≤ 1000) : binD .Mult (.lst [.int 0]) (.int (c : Int)) = some (.lst (iL (List.replicate c 0))) := by
  have e : (decide (-(2 ^ 63) ≤ (c : Int)) && decide ((c : Int) < 2 ^ 63) && fits ([D.int 0].length * (c : Int).toNat)) = true := by
    unfold fits
    simp
    omega
  dsimp only [binD]
  rw [if_pos e]
  simp [rep, iL]
theorem map_set' {α β : Type} (f : α → β) (l : List α) (n : Nat) (a : α) : (l.map f).set n (f a) = (l.set n a).map f := by simp
theorem ordered_ok (n : Nat) {T : Sto} (hT : StO T) (many c : Nat) (hm : many ≤ 1000) (hc0 : 0 < c) (hc : c ≤ 1000) : ∃ (rs : List (List Int)) (T' : Sto), cl (n + 3) "_law_ordered" [.obj 1, .int many, .int c] T = .ok (.lst (rs.map tupI), true) T' ∧ StO T' ∧ rs.length = many ∧ ∀ r ∈ rs, RuleOk c r := by
  rw [r_ordered]
  obtain ⟨os, T1, e1, hT1, hp⟩ := mixed_ok n hT (rg c) (by rw [rg_len]; exact hc)
  have hcl : c ≤ 16777216 := by omega
  have hml : many ≤ 16777216 := by omega
  have hlen : os.length = c := by rw [hp.length_eq, rg_len]
  have hnd : os.Nodup := hp.nodup_iff.mpr (rg_nodup c)
  have hmem : ∀ x ∈ os, ∃ i : Nat, i < c ∧ x = i := fun x hx => rg_mem.mp (hp.mem_iff.mp hx)
  simp [m__law_ordered, hcl, hml, rangeD0 c, e1]
  refine for_then (P := fun r => ∃ (rs : List (List Int)) (T' : Sto), finR r = .ok (.lst (rs.map tupI), true) T' ∧ StO T' ∧ rs.length = many ∧ ∀ r ∈ rs, RuleOk c r)
    (fun ds σ T => StO T ∧ ∃ (rs : List (List Int)) (s5 s6 s7 s8 : Sl), σ = [.fz (.obj 1), .fz (.int many), .fz (.int c), .ow (.lst (iL os)), .ow (.lst (rs.map tupI)), s5, s6, s7, s8] ∧ rs.length + ds.length = many ∧ ∀ r ∈ rs, RuleOk c r) ?_ ⟨hT1, [], _, _, _, _, rfl, by simp [rangeD], by simp⟩ ?_
  · rintro d ds σ T ⟨hT, rs, s5, s6, s7, s8, rfl, hd, hr⟩
    simp only [List.length_cons] at hd
    obtain ⟨v, T2, e2, hT2, v0, v1⟩ := draw_ok (n + 1) hT (m := (c : Int)) ⟨by omega, by omega⟩
    obtain ⟨q, rfl⟩ := Int.eq_ofNat_of_zero_le v0
    have hq : q < os.length := by omega
    obtain ⟨w, hw, ew⟩ := hmem _ (List.getElem_mem hq)
    have hg : (iL os)[q]? = some (.int (w : Int)) := iL_get (by rw [List.getElem?_eq_getElem hq, ew])
    have hit : ∀ (σ : Env) (T : Sto), itemM (.lst (iL os)) (.int (q : Int)) σ T = .ok (.int (w : Int)) T := fun _ _ => itemL hg
    have hmul := mul0 c hc
    have hset : ∀ (σ : Env) (T : Sto), setG (some (.ow (.lst (iL (List.replicate c 0))))) 7 (.int (w : Int)) (.int 1) σ T = .nx (σ.set 7 (.ow (.lst (iL ((List.replicate c 0).set w 1))))) T := fun σ T => by
      rw [setG_ow (by omega) (by simp; omega), Int.toNat_natCast, iL_set]
    have hcut : cutL (iL os) (some ((q : Int) + 1)) none = iL (os.drop (q + 1)) := by
      rw [show ((q : Int) + 1) = ((q + 1 : Nat) : Int) by omega, cut_from, iL_drop]
    -- the inner loop
    have inner : ∃ (r : List Int) (s8' : Sl) (T3 : Sto), forLoop (tgN 8) (sSeq [sSub 7 (V (vVar 8)) (V (callC (cl (n + 2)) "_law_draw" [V (vVar 0), V (kE (.int 3))]))]) (iL (os.drop (q + 1)))
        [.fz (.obj 1), .fz (.int many), .fz (.int c), .ow (.lst (iL os)), .ow (.lst (rs.map tupI)), .fz d, .fz (.int q), .ow (.lst (iL ((List.replicate c 0).set w 1))), s8] T2 =
        .nx [.fz (.obj 1), .fz (.int many), .fz (.int c), .ow (.lst (iL os)), .ow (.lst (rs.map tupI)), .fz d, .fz (.int q), .ow (.lst (iL r)), s8'] T3 ∧ StO T3 ∧ RuleOk c r := by
      obtain ⟨σ3, T3, e3, hT3, r, s8', ⟨_, he⟩, rfl, h1, h2, h3⟩ := for_inv (tg := tgN 8) (body := sSeq [sSub 7 (V (vVar 8)) (V (callC (cl (n + 2)) "_law_draw" [V (vVar 0), V (kE (.int 3))]))])
        (fun ds σ T => StO T ∧ ∃ (r : List Int) (s8 : Sl), (∃ ns, ds = iL ns ∧ ∀ x ∈ ns, x ∈ os.drop (q + 1)) ∧ σ = [.fz (.obj 1), .fz (.int many), .fz (.int c), .ow (.lst (iL os)), .ow (.lst (rs.map tupI)), .fz d, .fz (.int q), .ow (.lst (iL r)), s8] ∧
          r.length = c ∧ (∀ x ∈ r, 0 ≤ x ∧ x < 3) ∧ r[w]? = some 1)
        (fun d ds σ T h => by
          obtain ⟨hT, r, s8, ⟨ns, hn, hns⟩, rfl, h1, h2, h3⟩ := h
          cases ns with
          | nil => cases hn
          | cons i ns =>
            cases hn
            obtain ⟨v, T', e, hT', v0, v1⟩ := draw_ok (n + 1) hT (m := 3) ⟨by decide, by decide⟩
            obtain ⟨j, hj, ej⟩ := hmem i (List.mem_of_mem_drop (hns i List.mem_cons_self))
            have hne : i ≠ (w : Int) := fun z => by
              have h5 := hns i List.mem_cons_self
              rw [z, ← ew] at h5
              have h6 := List.drop_eq_getElem_cons (show q < os.length from hq)
              have h7 : (os.drop q).Nodup := hnd.sublist (List.drop_sublist _ _)
              rw [h6] at h7
              exact (List.nodup_cons.mp h7).1 h5
            have hset : ∀ (σ : Env) (T : Sto), setG (some (.ow (.lst (iL r)))) 7 (.int i) (.int v) σ T = .nx (σ.set 7 (.ow (.lst (iL (r.set j v))))) T := fun σ T => by
              rw [ej, setG_ow (by omega) (by simp; omega), Int.toNat_natCast, iL_set]
            refine ⟨_, _, _, rfl, by simp [e, hset]; exact rfl, hT', r.set j v, _, ⟨ns, rfl, fun x hx => hns x (List.mem_cons_of_mem _ hx)⟩, rfl, by simpa using h1, fun x hx => ?_, ?_⟩
            · rcases List.mem_or_eq_of_mem_set hx with z | z
              · exact h2 x z
              · subst z
                exact ⟨v0, v1⟩
            · rw [List.getElem?_set_ne (by omega)]
              exact h3)
        _ _ _ ⟨hT2, (List.replicate c 0).set w 1, s8, ⟨os.drop (q + 1), rfl, fun _ h => h⟩, rfl, by simp, fun x hx => by
          rcases List.mem_or_eq_of_mem_set hx with z | z
          · rw [List.eq_of_mem_replicate z]
            exact ⟨by decide, by decide⟩
          · subst z
            exact ⟨by decide, by decide⟩, by rw [List.getElem?_set_self (by simpa using hw)]⟩
      exact ⟨r, s8', T3, e3, hT3, h1, h2, List.mem_of_getElem? h3⟩
    obtain ⟨r, s8', T3, e3, hT3, hrr⟩ := inner
    have hf : rs.length < 16777216 := by omega
    refine ⟨_, _, _, rfl, by simp [e2, hmul, hit, hset, hcut, e3, hf]; exact rfl, hT3, rs ++ [r], _, _, _, _, by rw [List.map_append]; rfl, by simp; omega, fun x hx => ?_⟩
    rcases List.mem_append.mp hx with z | z
    · exact hr x z
    · rw [List.mem_singleton.mp z]
      exact hrr
  · rintro σ T ⟨hT, rs, s5, s6, s7, s8, rfl, hd, hr⟩
    exact ⟨rs, T, by simp, hT, by simpa using hd, hr⟩
end K76


set_option Elab.async false
set_option linter.all false
set_option maxRecDepth 100000
set_option maxHeartbeats 4000000
namespace K76
open PySem hiding Env
open Mi
structure MachOk (rs : List (List Int)) (c : Nat) : Prop where
  c0 : 1 ≤ c
  c1 : c ≤ 8
  l0 : 1 ≤ rs.length
  l1 : rs.length ≤ 40
  ok : ∀ r ∈ rs, RuleOk c r
theorem r_drawn (n : Nat) (a : D) (T : Sto) : cl (n + 1) "_law_drawn" [a] T = finR (m__law_drawn (cl n) [.fz a, .no, .no, .no, .no, .no, .no, .no] T) := cl_succ (d := d__law_drawn) (by kernel_rfl) (by kernel_rfl) (c__law_drawn _)
theorem iL_of : ∀ (ys : List D) (P : Int → Prop), (∀ y ∈ ys, ∃ x, y = D.int x ∧ P x) → ∃ xs, ys = iL xs ∧ ∀ x ∈ xs, P x
  | [], P, _ => ⟨[], rfl, by simp⟩
  | y :: ys, P, h => by
    obtain ⟨x, rfl, hx⟩ := h y List.mem_cons_self
    obtain ⟨xs, rfl, hxs⟩ := iL_of ys P fun y hy => h y (List.mem_cons_of_mem _ hy)
    exact ⟨x :: xs, rfl, fun z hz => (List.mem_cons.mp hz).elim (fun e => e ▸ hx) (hxs z)⟩
theorem drawn_ok (n : Nat) {T : Sto} (hT : StO T) : ∃ (rs : List (List Int)) (c : Nat) (T' : Sto), cl (n + 4) "_law_drawn" [.obj 1] T = .ok (.tup (rs.map tupI), false) T' ∧ StO T' ∧ MachOk rs c := by
  rw [r_drawn]
  obtain ⟨v1, T1, e1, hT1, a1, b1⟩ := draw_ok (n + 2) hT (m := 3) ⟨by decide, by decide⟩
  obtain ⟨w, hw, hit⟩ : ∃ w : Int, (1 ≤ w ∧ w ≤ 40) ∧ ∀ (σ : Env) (T : Sto), itemM (.lst [.int 4, .int 12, .int 40]) (.int v1) σ T = .ok (.int w) T := by
    obtain rfl | rfl | rfl : v1 = 0 ∨ v1 = 1 ∨ v1 = 2 := by omega
    · exact ⟨4, by decide, fun _ _ => itemL (i := 0) rfl⟩
    · exact ⟨12, by decide, fun _ _ => itemL (i := 1) rfl⟩
    · exact ⟨40, by decide, fun _ _ => itemL (i := 2) rfl⟩
  obtain ⟨v2, T2, e2, hT2, a2, b2⟩ := draw_ok (n + 2) hT1 (m := w) ⟨by omega, by omega⟩
  obtain ⟨v3, T3, e3, hT3, a3, b3⟩ := draw_ok (n + 2) hT2 (m := 8) ⟨by decide, by decide⟩
  obtain ⟨many, hmany⟩ := Int.eq_ofNat_of_zero_le (show 0 ≤ 1 + v2 by omega)
  obtain ⟨c, hc⟩ := Int.eq_ofNat_of_zero_le (show 0 ≤ 1 + v3 by omega)
  obtain ⟨rs, T4, e4, hT4, hlen, hrs⟩ := ordered_ok n hT3 many c (by omega) (by omega) (by omega)
  obtain ⟨v5, T5, e5, hT5, a5, b5⟩ := draw_ok (n + 2) hT4 (m := 3) ⟨by decide, by decide⟩
  obtain ⟨t, rfl⟩ := Int.eq_ofNat_of_zero_le a5
  have ht : t ≤ 16777216 := by omega
  have hcl : c ≤ 16777216 := by omega
  simp [m__law_drawn, e1, hit, e2, e3, hmany, hc, e4, e5, ht]
  refine for_then (P := fun r => ∃ (rs : List (List Int)) (c : Nat) (T' : Sto), finR r = .ok (.tup (rs.map tupI), false) T' ∧ StO T' ∧ MachOk rs c)
    (fun ds σ T => StO T ∧ ∃ (rs : List (List Int)) (s4 s5 s6 s7 : Sl), σ = [.fz (.obj 1), .fz (.int many), .fz (.int c), .ow (.lst (rs.map tupI)), s4, s5, s6, s7] ∧ rs.length = many ∧ ∀ r ∈ rs, RuleOk c r) ?_ ⟨hT5, rs, _, _, _, _, rfl, hlen, hrs⟩ ?_
  · rintro d ds σ T ⟨hT, rs, s4, s5, s6, s7, rfl, hd, hr⟩
    obtain ⟨a, T6, e6, hT6, a6, b6⟩ := draw_ok (n + 2) hT (m := (many : Int)) ⟨by omega, by omega⟩
    obtain ⟨at', rfl⟩ := Int.eq_ofNat_of_zero_le a6
    obtain ⟨ys, T7, e7, hl7, hy7, hT7⟩ := lc_inv (tg := tgN 7) (el := V (callC (cl (n + 3)) "_law_draw" [V (vVar 0), V (kE (.int 3))])) (σ := [.fz (.obj 1), .fz (.int many), .fz (.int c), .ow (.lst (rs.map tupI)), .fz d, .fz (.int at'), s6, .no]) StO (fun y => ∃ x, y = D.int x ∧ (0 ≤ x ∧ x < 3)) (rangeD 0 c) [] T6 (by simp [rangeD]; omega) hT6 (fun d hd T hT => by
      obtain ⟨v, T', e, hT', v0, v1⟩ := draw_ok (n + 2) hT (m := 3) ⟨by decide, by decide⟩
      exact ⟨_, .int v, T', rfl, by simp [e], ⟨v, rfl, v0, v1⟩, hT'⟩)
    obtain ⟨xs, rfl, hxs⟩ := iL_of ys _ hy7
    rw [List.nil_append] at e7
    have e7 := lcK_ok e7
    have hxl : xs.length = c := by simpa [rangeD] using hl7
    obtain ⟨b, T8, e8, hT8, a8, b8⟩ := draw_ok (n + 2) hT7 (m := (c : Int)) ⟨by omega, by omega⟩
    obtain ⟨q, rfl⟩ := Int.eq_ofNat_of_zero_le a8
    have hq : q < xs.length := by omega
    have hset : ∀ (σ : Env) (T : Sto), setG (some (.ow (.lst (iL xs)))) 6 (.int (q : Int)) (.int 1) σ T = .nx (σ.set 6 (.ow (.lst (iL (xs.set q 1))))) T := fun σ T => by
      rw [setG_ow (by omega) (by simp; omega), Int.toNat_natCast, iL_set]
    have hset2 : ∀ (σ : Env) (T : Sto), setG (some (.ow (.lst (rs.map tupI)))) 3 (.int (at' : Int)) (.tup (iL (xs.set q 1))) σ T = .nx (σ.set 3 (.ow (.lst ((rs.set at' (xs.set q 1)).map tupI)))) T := fun σ T => by
      rw [setG_ow (by omega) (by simp; omega), Int.toNat_natCast, map_set' tupI]
    refine ⟨_, _, _, rfl, by simp [e6, hcl, e7, e8, hset, hset2]; exact rfl, hT8, rs.set at' (xs.set q 1), _, _, _, _, by rw [List.map_set], by simpa using hd, fun r hr' => ?_⟩
    rcases List.mem_or_eq_of_mem_set hr' with z | z
    · exact hr r z
    · subst z
      refine ⟨by simpa using hxl, fun x hx => ?_, List.mem_of_getElem? (i := q) (by rw [List.getElem?_set_self hq])⟩
      rcases List.mem_or_eq_of_mem_set hx with z | z
      · exact hxs x z
      · subst z
        exact ⟨by decide, by decide⟩
  · rintro σ T ⟨hT, rs, s4, s5, s6, s7, rfl, hd, hr⟩
    exact ⟨rs, c, T, by simp, hT, by omega, by omega, by omega, by omega, hr⟩
end K76


set_option Elab.async false
set_option linter.all false
set_option maxRecDepth 100000
set_option maxHeartbeats 4000000
namespace K76
open PySem hiding Env
open Mi
/-! ### is_machine -/
def oneB : D → Bool
  | .int i => decide (0 ≤ i) && decide (i < 3)
  | _ => false
def has1 (ds : List D) : Bool := ds.any fun y => y.eqv (.int 1)
def ruleB (m : Nat) : D → Bool
  | .tup ds => decide (ds.length = m) && (ds.all oneB && has1 ds)
  | _ => false
def machB : D → Bool
  | .tup (.tup r :: ds) => decide (ds.length < 40) && (decide (1 ≤ r.length) && decide (r.length ≤ 8) && (D.tup r :: ds).all (ruleB r.length))
  | _ => false
section
variable {σ : Env} {T : Sto}
theorem plains_mem : ∀ {ds : List D} {d : D}, D.plains ds = true → d ∈ ds → d.plain = true
  | [], d, _, h => by simp at h
  | x :: ds, d, hp, h => by
    have hp : (x.plain && D.plains ds) = true := hp
    rw [Bool.and_eq_true] at hp
    rcases List.mem_cons.mp h with rfl | h
    · exact hp.1
    · exact plains_mem hp.2 h
theorem noObj_plain {d : D} (h : d.plain = true) : noObj d = true := by cases d <;> first | rfl | cases h
theorem in_one {ds : List D} (h : D.plains ds = true) : cmpD .In (.int 1) (.tup ds) = some (has1 ds) := by
  show memD (.int 1) ds = _
  unfold memD has1
  have e : (D.int 1).flat = true := rfl
  split
  · rfl
  · rw [if_pos (by rw [h]; rfl)]
theorem notin3 (i : Int) : cmpD .NotIn (.int i) (.tup [.int 0, .int 1, .int 2]) = some (!(decide (0 ≤ i) && decide (i < 3))) := by
  have e : cmpD .NotIn (.int i) (.tup [.int 0, .int 1, .int 2]) = some (!([D.int 0, D.int 1, D.int 2].any fun y => y.eqv (.int i))) := rfl
  rw [e]
  congr 2
  simp only [List.any_cons, List.any_nil, D.eqv, D.py, PyData.eqv, Bool.or_false]
  rw [Bool.eq_iff_iff]
  simp
  omega
theorem r_is_rule (n : Nat) (a b : D) (T : Sto) : cl (n + 1) "is_rule" [a, b] T = finR (m_is_rule (cl n) [.fz a, .fz b, .no] T) := cl_succ (d := d_is_rule) (by kernel_rfl) (by kernel_rfl) (c_is_rule _)
theorem r_law_is_rule (n : Nat) (a b : D) (T : Sto) : cl (n + 1) "_law_is_rule" [a, b] T = finR (m__law_is_rule (cl n) [.fz a, .fz b, .no] T) := cl_succ (d := d__law_is_rule) (by kernel_rfl) (by kernel_rfl) (c__law_is_rule _)
theorem r_is_machine (n : Nat) (a : D) (T : Sto) : cl (n + 1) "is_machine" [a] T = finR (m_is_machine (cl n) [.fz a, .no, .no] T) := cl_succ (d := d_is_machine) (by kernel_rfl) (by kernel_rfl) (c_is_machine _)
theorem r_law_is_machine (n : Nat) (a : D) (T : Sto) : cl (n + 1) "_law_is_machine" [a] T = finR (m__law_is_machine (cl n) [.fz a, .no] T) := cl_succ (d := d__law_is_machine) (by kernel_rfl) (by kernel_rfl) (c__law_is_machine _)
theorem isTup_no {d : D} (h : ∀ ds, d ≠ .tup ds) : d.isTup = false := by
  cases d <;> first | rfl | exact absurd rfl (h _)
theorem is_rule_ok (n : Nat) (v : D) (m : Nat) (T : Sto) (hp : v.plain = true) : cl (n + 1) "is_rule" [v, .int m] T = .ok (.bl (ruleB m v), false) T := by
  rw [r_is_rule]
  have hn := noObj_plain hp
  by_cases ht : ∃ ds, v = .tup ds
  · obtain ⟨ds, rfl⟩ := ht
    have hps : D.plains ds = true := hp
    by_cases hl : ds.length = m
    · subst hl
      simp [m_is_rule]
      have fin : has1 ds = has1 ds := rfl
      refine for_ret (tg := tgN 2) (fun ts σ T' => T' = T ∧ (∀ d ∈ ts, d.plain = true) ∧ (ts.all oneB = ds.all oneB) ∧ ∃ s, σ = [.fz (.tup ds), .fz (.int ds.length), s]) (fun r => finR (r.seq (sSeq [sRet (blE (cmpE CmpOp.In (V (kE (D.int 1))) (pVar 0)))])) = .ok (.bl (ruleB ds.length (.tup ds)), false) T) ?_ ?_ ds _ T ⟨rfl, fun d hd => plains_mem hps hd, rfl, _, rfl⟩
      · rintro d ts σ T' ⟨rfl, h1, h2, s, rfl⟩
        refine ⟨_, rfl, ?_⟩
        have hd := noObj_plain (h1 d List.mem_cons_self)
        have bad : oneB d = false → ruleB ds.length (.tup ds) = false := fun e => by
          rw [List.all_cons, e, Bool.false_and] at h2
          simp [ruleB, ← h2]
        cases ho : oneB d with
        | true =>
          left
          cases d with
          | int i =>
            have hi : (decide (0 ≤ i) && decide (i < 3)) = true := ho
            refine ⟨_, _, by simp [notin3, hi]; exact rfl, rfl, fun d hd => h1 d (List.mem_cons_of_mem _ hd), ?_, _, rfl⟩
            rw [List.all_cons, ho, Bool.true_and] at h2
            exact h2
          | _ => cases ho
        | false =>
          right
          refine ⟨.bl false, false, T', ?_, by simp [bad ho]⟩
          cases d with
          | int i =>
            have hi : (decide (0 ≤ i) && decide (i < 3)) = false := ho
            simp [notin3, hi]
          | bl b => simp [D.isInt]
          | _ => simp [hd, D.isInt]
      · rintro σ T' ⟨rfl, h1, h2, s, rfl⟩
        have h2 : ds.all oneB = true := h2.symm
        simp [in_one hps, ruleB, h2]
    · have hl' : ¬ ((ds.length : Int) = (m : Int)) := by omega
      simp [m_is_rule, ruleB, hl, hl']
  · have hf := isTup_no (d := v) fun ds e => ht ⟨ds, e⟩
    have e : ruleB m v = false := by
      cases v <;> first | rfl | exact absurd ⟨_, rfl⟩ ht
    simp [m_is_rule, hn, hf, e]
theorem law_is_rule_ok (n : Nat) (v : D) (m : Nat) (T : Sto) (hp : v.plain = true) (hz : ∀ ds, v = .tup ds → ds.length < 16777216) : cl (n + 1) "_law_is_rule" [v, .int m] T = .ok (.bl (ruleB m v), false) T := by
  rw [r_law_is_rule]
  have hn := noObj_plain hp
  by_cases ht : ∃ ds, v = .tup ds
  · obtain ⟨ds, rfl⟩ := ht
    have hps : D.plains ds = true := hp
    by_cases hl : ds.length = m
    · subst hl
      have e := lc_mapY (tg := tgN 2) (el := V (andE [V (isiE "int" (pVar 2)), V (notE (V (isiE "bool" (pVar 2)))), V (blE (chE .LtE .Lt (V (kE (.int 0))) (pVar 2) (V (kE (.int 3)))))])) (σ := [.fz (.tup ds), .fz (.int ds.length), .no]) (T := T) (fun d => .bl (oneB d)) ds (hz ds rfl) (fun d hd => by
        have hd := noObj_plain (plains_mem hps hd)
        refine ⟨_, rfl, ?_⟩
        cases d with
        | int i =>
          by_cases h0 : 0 ≤ i
          · simp [h0, oneB]
          · simp [h0, oneB]
        | bl b => simp [D.isInt, oneB]
        | _ => simp [hd, D.isInt, oneB])
      have e := lcK_ok e
      have ea : bltD "all" [.lst (ds.map fun d => .bl (oneB d))] = some (.bl (ds.all oneB), false) := by
        have := blt_all (ds.map oneB)
        rw [List.map_map] at this
        rw [show (ds.map fun d => D.bl (oneB d)) = ds.map (D.bl ∘ oneB) from rfl, this, List.all_map]
        rfl
      cases ho : ds.all oneB with
      | true => 
        rw [ho] at ea
        simp [m__law_is_rule, e, ea, in_one hps, ruleB, ho]
      | false =>
        rw [ho] at ea
        simp [m__law_is_rule, e, ea, ruleB, ho]
    · have hl' : ¬ ((ds.length : Int) = (m : Int)) := by omega
      simp [m__law_is_rule, ruleB, hl, hl']
  · have hf := isTup_no (d := v) fun ds e => ht ⟨ds, e⟩
    have e : ruleB m v = false := by
      cases v <;> first | rfl | exact absurd ⟨_, rfl⟩ ht
    simp [m__law_is_rule, hn, hf, e]
/-- plain data of bounded width -/
def Dat (v : D) : Prop := v.plain = true ∧ ∀ ds, v = .tup ds → ds.length < 16777216 ∧ ∀ d ∈ ds, ∀ es, d = .tup es → es.length < 16777216
theorem all_rules (ds : List D) (m : Nat) : bltD "all" [.lst (ds.map fun d => .bl (ruleB m d))] = some (.bl (ds.all (ruleB m)), false) := by
  have := blt_all (ds.map (ruleB m))
  rw [List.map_map] at this
  rw [show (ds.map fun d => D.bl (ruleB m d)) = ds.map (D.bl ∘ ruleB m) from rfl, this, List.all_map]
  rfl
theorem is_machine_ok (n : Nat) (v : D) (T : Sto) (hv : Dat v) : cl (n + 2) "is_machine" [v] T = .ok (.bl (machB v), false) T := by
  obtain ⟨hp, hw⟩ := hv
  rw [r_is_machine]
  have hn := noObj_plain hp
  by_cases ht : ∃ ds, v = .tup ds
  · obtain ⟨ds, rfl⟩ := ht
    have hps : D.plains ds = true := hp
    cases ds with
    | nil => simp [m_is_machine, machB]
    | cons d ds =>
      have hd := noObj_plain (plains_mem hps List.mem_cons_self)
      by_cases hl : ds.length < 40
      · have hl1 : (1 : Int) ≤ (ds.length : Int) + 1 := by omega
        have hl2 : (ds.length : Int) + 1 ≤ 40 := by omega
        by_cases ht2 : ∃ r, d = .tup r
        · obtain ⟨r, rfl⟩ := ht2
          have e := lc_mapY (tg := tgN 2) (el := V (callC (cl (n + 1)) "is_rule" [V (vVar 2), V (vVar 1)])) (σ := [.fz (.tup (.tup r :: ds)), .fz (.int r.length), .no]) (T := T) (fun d => .bl (ruleB r.length d)) (.tup r :: ds) (hw _ rfl).1 (fun d hd => ⟨_, rfl, by simp [is_rule_ok n d r.length T (plains_mem hps hd)]⟩)
          have e := lcK_ok e
          have ea := all_rules (.tup r :: ds) r.length
          by_cases h1 : 1 ≤ r.length
          · have h1' : (1 : Int) ≤ (r.length : Int) := by omega
            by_cases h2 : r.length ≤ 8
            · have h2' : (r.length : Int) ≤ 8 := by omega
              simp only [List.map_cons] at e ea
              simp [m_is_machine, hl1, hl2, h1', h2', e, ea, machB, hl, h1, h2]
            · have h2' : ¬ (r.length : Int) ≤ 8 := by omega
              simp [m_is_machine, hl1, hl2, h1', h2', machB, hl, h1, h2]
          · have h1' : ¬ (1 : Int) ≤ (r.length : Int) := by omega
            simp [m_is_machine, hl1, hl2, h1', machB, hl, h1]
        · have hf := isTup_no (d := d) fun ds e => ht2 ⟨ds, e⟩
          have e : machB (.tup (d :: ds)) = false := by
            cases d <;> first | rfl | exact absurd ⟨_, rfl⟩ ht2
          simp [m_is_machine, hl1, hl2, hd, hf, e]
      · have hl2 : ¬ (ds.length : Int) + 1 ≤ 40 := by omega
        have hl1 : (1 : Int) ≤ (ds.length : Int) + 1 := by omega
        have e : machB (.tup (d :: ds)) = false := by
          cases d <;> first | rfl | simp [machB, hl]
        simp [m_is_machine, hl1, hl2, e]
  · have hf := isTup_no (d := v) fun ds e => ht ⟨ds, e⟩
    have e : machB v = false := by
      cases v <;> first | rfl | exact absurd ⟨_, rfl⟩ ht
    simp [m_is_machine, hn, hf, e]
theorem law_is_machine_ok (n : Nat) (v : D) (T : Sto) (hv : Dat v) : cl (n + 2) "_law_is_machine" [v] T = .ok (.bl (machB v), false) T := by
  obtain ⟨hp, hw⟩ := hv
  rw [r_law_is_machine]
  have hn := noObj_plain hp
  by_cases ht : ∃ ds, v = .tup ds
  · obtain ⟨ds, rfl⟩ := ht
    have hps : D.plains ds = true := hp
    cases ds with
    | nil => simp [m__law_is_machine, machB]
    | cons d ds =>
      have hd := noObj_plain (plains_mem hps List.mem_cons_self)
      by_cases hl : ds.length < 40
      · have hl1 : (1 : Int) ≤ (ds.length : Int) + 1 := by omega
        have hl2 : (ds.length : Int) + 1 ≤ 40 := by omega
        by_cases ht2 : ∃ r, d = .tup r
        · obtain ⟨r, rfl⟩ := ht2
          have e := lc_mapY (tg := tgN 1) (el := V (callC (cl (n + 1)) "_law_is_rule" [V (vVar 1), V (lenE (V (ixE (pVar 0) (V (kE (.int 0))))))])) (σ := [.fz (.tup (.tup r :: ds)), .no]) (T := T) (fun d => .bl (ruleB r.length d)) (.tup r :: ds) (hw _ rfl).1 (fun d hd => ⟨_, rfl, by simp [law_is_rule_ok n d r.length T (plains_mem hps hd) ((hw _ rfl).2 d hd)]⟩)
          have e := lcK_ok e
          have ea := all_rules (.tup r :: ds) r.length
          by_cases h1 : 1 ≤ r.length
          · have h1' : (1 : Int) ≤ (r.length : Int) := by omega
            by_cases h2 : r.length ≤ 8
            · have h2' : (r.length : Int) ≤ 8 := by omega
              simp only [List.map_cons] at e ea
              simp [m__law_is_machine, hl1, hl2, h1', h2', e, ea, machB, hl, h1, h2]
            · have h2' : ¬ (r.length : Int) ≤ 8 := by omega
              simp [m__law_is_machine, hl1, hl2, h1', h2', machB, hl, h1, h2]
          · have h1' : ¬ (1 : Int) ≤ (r.length : Int) := by omega
            simp [m__law_is_machine, hl1, hl2, h1', machB, hl, h1]
        · have hf := isTup_no (d := d) fun ds e => ht2 ⟨ds, e⟩
          have e : machB (.tup (d :: ds)) = false := by
            cases d <;> first | rfl | exact absurd ⟨_, rfl⟩ ht2
          simp [m__law_is_machine, hl1, hl2, hd, hf, e]
      · have hl2 : ¬ (ds.length : Int) + 1 ≤ 40 := by omega
        have hl1 : (1 : Int) ≤ (ds.length : Int) + 1 := by omega
        have e : machB (.tup (d :: ds)) = false := by
          cases d <;> first | rfl | simp [machB, hl]
        simp [m__law_is_machine, hl1, hl2, e]
  · have hf := isTup_no (d := v) fun ds e => ht ⟨ds, e⟩
    have e : machB v = false := by
      cases v <;> first | rfl | exact absurd ⟨_, rfl⟩ ht
    simp [m__law_is_machine, hn, hf, e]
end
end K76


set_option Elab.async false
set_option linter.all false
set_option maxRecDepth 100000
set_option maxHeartbeats 4000000
namespace K76
open PySem hiding Env
open Mi
/-! ### falls -/
def nats (ls : List Nat) : List D := ls.map fun (i : Nat) => D.int (i : Int)
@[simp] theorem nats_len (ls : List Nat) : (nats ls).length = ls.length := by simp [nats]
theorem nats_app (a b : List Nat) : nats (a ++ b) = nats a ++ nats b := by simp [nats]
theorem nats_mem {ls : List Nat} {d : D} (h : d ∈ nats ls) : ∃ i ∈ ls, d = .int (i : Int) := by
  obtain ⟨i, hi, e⟩ := List.mem_map.mp h
  exact ⟨i, hi, e.symm⟩
theorem rangeN (n : Nat) : rangeD 0 n = nats (List.range n) := by
  unfold rangeD nats
  simp
theorem nats_filter (ls : List Nat) (p : D → Bool) : (nats ls).filter p = nats (ls.filter fun i => p (.int (i : Int))) := by
  unfold nats
  rw [List.filter_map]
  rfl
def rowOf (rs : List (List Int)) (i : Nat) : List Int := rs.getD i []
def cell (rs : List (List Int)) (i k : Nat) : Int := (rowOf rs i).getD k 0
def hasV (rs : List (List Int)) (left : List Nat) (k : Nat) (v : Int) : Bool := left.any fun i => cell rs i k == v
def okF (rs : List (List Int)) (left : List Nat) (k : Nat) : Bool := hasV rs left k 1 && !hasV rs left k 2
def nextF (rs : List (List Int)) (c : Nat) (left : List Nat) : Option Nat := (List.range c).find? (okF rs left)
def dropF (rs : List (List Int)) (left : List Nat) (k : Nat) : List Nat := left.filter fun i => !(decide (cell rs i k = 1))
def nextD : Option Nat → D
  | some k => .int (k : Int)
  | none => .non
theorem r_next (n : Nat) (a b : D) (T : Sto) : cl (n + 1) "next_counter" [a, b] T = finR (m_next_counter (cl n) [.fz a, .fz b, .no, .no, .no] T) := cl_succ (d := d_next_counter) (by kernel_rfl) (by kernel_rfl) (c_next_counter _)
theorem r_order (n : Nat) (a : D) (T : Sto) : cl (n + 1) "order_of_falls" [a] T = finR (m_order_of_falls (cl n) [.fz a, .no, .no, .no, .no] T) := cl_succ (d := d_order_of_falls) (by kernel_rfl) (by kernel_rfl) (c_order_of_falls _)
theorem r_due (n : Nat) (a : D) (T : Sto) : cl (n + 1) "_law_due" [a] T = finR (m__law_due (cl n) [.fz a, .no, .no, .no, .no, .no, .no] T) := cl_succ (d := d__law_due) (by kernel_rfl) (by kernel_rfl) (c__law_due _)
theorem in_iL (v : Int) (ws : List Int) : cmpD .In (.int v) (.lst (iL ws)) = some (ws.any (· == v)) := by
  show memD (.int v) (iL ws) = _
  have e : (iL ws).all D.flat = true := by simp [iL, D.flat]
  unfold memD
  rw [if_pos (by rw [e]; rfl)]
  simp [iL, List.any_map, D.eqv, D.py, PyData.eqv, Function.comp_def]
theorem nin_iL (v : Int) (ws : List Int) : cmpD .NotIn (.int v) (.lst (iL ws)) = some (!ws.any (· == v)) := by
  have h := in_iL v ws
  have h : inD (.int v) (.lst (iL ws)) = _ := h
  show (inD (.int v) (.lst (iL ws))).map (!·) = _
  rw [h]
  rfl
section
variable {rs : List (List Int)} {c : Nat}
theorem row_at (i : Nat) (h : i < rs.length) (σ : Env) (T : Sto) : itemM (.tup (rs.map tupI)) (.int (i : Int)) σ T = .ok (tupI (rowOf rs i)) T := itemT (by
  rw [List.getElem?_map, List.getElem?_eq_getElem h, rowOf, List.getD_eq_getElem?_getD, List.getElem?_eq_getElem h]
  rfl)
theorem cell_at (ok : MachOk rs c) (i k : Nat) (h : i < rs.length) (hk : k < c) (σ : Env) (T : Sto) : itemM (tupI (rowOf rs i)) (.int (k : Int)) σ T = .ok (.int (cell rs i k)) T := by
  have hr : (rowOf rs i).length = c := by
    rw [rowOf, List.getD_eq_getElem?_getD, List.getElem?_eq_getElem h]
    exact (ok.ok _ (List.getElem_mem h)).1
  refine itemT (iL_get ?_)
  unfold cell
  rw [List.getElem?_eq_getElem (by omega)]
  congr 1
  rw [List.getD_eq_getElem?_getD (l := rowOf rs i), List.getElem?_eq_getElem (by omega)]
  rfl
theorem row0 (ok : MachOk rs c) (σ : Env) (T : Sto) : itemM (.tup (rs.map tupI)) (.int 0) σ T = .ok (tupI (rowOf rs 0)) T := row_at 0 ok.l0 σ T
theorem row0_len (ok : MachOk rs c) : (iL (rowOf rs 0)).length = c := by
  rw [iL_len, rowOf, List.getD_eq_getElem?_getD, List.getElem?_eq_getElem (show 0 < rs.length from ok.l0)]
  exact (ok.ok _ (List.getElem_mem _)).1
def cellD (rs : List (List Int)) (k : Nat) : D → D
  | .int i => .int (cell rs i.toNat k)
  | d => d
theorem cellD_map (left : List Nat) (k : Nat) : (nats left).map (cellD rs k) = iL (left.map fun i => cell rs i k) := by
  unfold nats iL
  rw [List.map_map, List.map_map]
  rfl
theorem next_ok (ok : MachOk rs c) (n : Nat) (left : List Nat) (hl : ∀ i ∈ left, i < rs.length) (hz : left.length ≤ 1000) (T : Sto) : cl (n + 1) "next_counter" [.tup (rs.map tupI), .lst (nats left)] T = .ok (nextD (nextF rs c left), false) T := by
  rw [r_next]
  have hc : c ≤ 16777216 := by have := ok.c1; omega
  have hr0 := row0 ok
  have hl0 := row0_len ok
  simp only [iL_len] at hl0
  simp [m_next_counter, hr0, hl0, hc]
  refine for_ret (fun ds σ T' => T' = T ∧ ∃ ks s2 s3 s4, ds = nats ks ∧ (∀ k ∈ ks, k < c) ∧ ks.find? (okF rs left) = nextF rs c left ∧ σ = [.fz (.tup (rs.map tupI)), .fz (.lst (nats left)), s2, s3, s4])
    (fun r => finR (r.seq (sSeq [sRet (kE .non)])) = .ok (nextD (nextF rs c left), false) T) ?_ ?_ _ _ _ ⟨rfl, List.range c, _, _, _, rangeN c, fun k hk => List.mem_range.mp hk, rfl, rfl⟩
  · rintro d ds σ T' ⟨rfl, ks, s2, s3, s4, hd, hk, hf, rfl⟩
    cases ks with
    | nil => cases hd
    | cons k ks =>
      cases hd
      have hkc := hk k List.mem_cons_self
      have e := lc_mapY (tg := tgN 4) (el := V (ixE (V (ixE (pVar 0) (V (vVar 4)))) (V (vVar 2)))) (σ := [.fz (.tup (rs.map tupI)), .fz (.lst (nats left)), .fz (.int (k : Int)), s3, .no]) (T := T') (cellD rs k) (nats left) (by rw [nats_len]; omega) (fun d hd => by
        obtain ⟨i, hi, rfl⟩ := nats_mem hd
        exact ⟨_, rfl, by simp [row_at i (hl i hi), cell_at ok i k (hl i hi) hkc, cellD]⟩)
      have e := lcK_ok e
      rw [cellD_map] at e
      refine ⟨_, rfl, ?_⟩
      have e1 : ((left.map fun i => cell rs i k).any (· == 1)) = hasV rs left k 1 := by
        unfold hasV
        rw [List.any_map]
        rfl
      have e2 : ((left.map fun i => cell rs i k).any (· == 2)) = hasV rs left k 2 := by
        unfold hasV
        rw [List.any_map]
        rfl
      have i1 := in_iL 1 (left.map fun i => cell rs i k)
      have i2 := nin_iL 2 (left.map fun i => cell rs i k)
      rw [e1] at i1
      rw [e2] at i2
      rw [List.find?_cons] at hf
      cases ho : okF rs left k with
      | true =>
        right
        rw [ho] at hf
        unfold okF at ho
        rw [Bool.and_eq_true] at ho
        rw [ho.1] at i1
        rw [ho.2] at i2
        exact ⟨.int (k : Int), false, T', by simp [e, i1, i2], by simp [← hf, nextD]⟩
      | false =>
        left
        rw [ho] at hf
        refine ⟨[.fz (.tup (rs.map tupI)), .fz (.lst (nats left)), .fz (.int (k : Int)), .ow (.lst (iL (left.map fun i => cell rs i k))), s4], T', ?_, rfl, ks, _, _, _, rfl, fun j hj => hk j (List.mem_cons_of_mem _ hj), hf, rfl⟩
        unfold okF at ho
        cases h1 : hasV rs left k 1 with
        | false =>
          rw [h1] at i1
          simp [e, i1]
        | true =>
          rw [h1, Bool.true_and] at ho
          rw [h1] at i1
          rw [ho] at i2
          simp [e, i1, i2]
  · rintro σ T' ⟨rfl, ks, s2, s3, s4, hd, hk, hf, rfl⟩
    cases ks with
    | nil =>
      simp at hf
      simp [← hf, nextD]
    | cons k ks => cases hd
end
end K76


set_option Elab.async false
set_option linter.all false
set_option maxRecDepth 100000
set_option maxHeartbeats 4000000
namespace K76
open PySem hiding Env
open Mi
/-! ### the fixed point -/
abbrev Sf := List Nat × List Nat
def stepF (rs : List (List Int)) (c : Nat) (s : Sf) : Sf := match nextF rs c s.1 with
  | some k => (dropF rs s.1 k, s.2 ++ [k])
  | none => s
def iterF (rs : List (List Int)) (c : Nat) : Nat → Sf → Sf
  | 0, s => s
  | n + 1, s => iterF rs c n (stepF rs c s)
section
variable {rs : List (List Int)} {c : Nat}
theorem step_none {s : Sf} (h : nextF rs c s.1 = none) : stepF rs c s = s := by
  unfold stepF
  rw [h]
theorem step_some {s : Sf} {k : Nat} (h : nextF rs c s.1 = some k) : stepF rs c s = (dropF rs s.1 k, s.2 ++ [k]) := by
  unfold stepF
  rw [h]
theorem iter_none {s : Sf} (h : nextF rs c s.1 = none) : ∀ n, iterF rs c n s = s
  | 0 => rfl
  | n + 1 => by
    show iterF rs c n (stepF rs c s) = s
    rw [step_none h]
    exact iter_none h n
def InvF (rs : List (List Int)) (c : Nat) (s : Sf) : Prop := s.2.Nodup ∧ ∀ k ∈ s.2, k < c ∧ hasV rs s.1 k 1 = false
theorem next_is {left : List Nat} {k : Nat} (h : nextF rs c left = some k) : k < c ∧ hasV rs left k 1 = true := by
  have h1 := List.find?_some h
  have h2 := List.mem_of_find?_eq_some h
  unfold okF at h1
  rw [Bool.and_eq_true] at h1
  exact ⟨List.mem_range.mp h2, h1.1⟩
theorem has_drop {left : List Nat} {k j : Nat} {v : Int} (h : hasV rs left j v = false) : hasV rs (dropF rs left k) j v = false := by
  unfold hasV at h ⊢
  rw [List.any_eq_false] at h ⊢
  exact fun i hi => h i (List.mem_filter.mp hi).1
theorem has_drop1 {left : List Nat} {k : Nat} : hasV rs (dropF rs left k) k 1 = false := by
  unfold hasV
  rw [List.any_eq_false]
  intro i hi
  have := (List.mem_filter.mp hi).2
  simpa using this
theorem InvF.step {s : Sf} (h : InvF rs c s) : InvF rs c (stepF rs c s) := by
  cases hn : nextF rs c s.1 with
  | none => rw [step_none hn]; exact h
  | some k =>
    rw [step_some hn]
    obtain ⟨h1, h2⟩ := next_is hn
    have hk : k ∉ s.2 := fun z => by
      have := (h.2 k z).2
      rw [h2] at this
      cases this
    refine ⟨?_, fun j hj => ?_⟩
    · show (s.2 ++ [k]).Nodup
      rw [List.nodup_append]
      refine ⟨h.1, by simp, fun a ha b hb e => ?_⟩
      have : b = k := by simpa using hb
      exact hk (by rw [← this, ← e]; exact ha)
    · rcases List.mem_append.mp hj with z | z
      · exact ⟨(h.2 j z).1, has_drop (h.2 j z).2⟩
      · have : j = k := by simpa using z
        subst this
        exact ⟨h1, has_drop1⟩
theorem InvF.iter : ∀ (n : Nat) {s : Sf}, InvF rs c s → InvF rs c (iterF rs c n s)
  | 0, s, h => h
  | n + 1, s, h => InvF.iter n h.step
theorem iter_len : ∀ (n : Nat) (s : Sf) (k : Nat), nextF rs c (iterF rs c n s).1 = some k → (iterF rs c n s).2.length = s.2.length + n
  | 0, s, k, h => rfl
  | n + 1, s, k, h => by
    show (iterF rs c n (stepF rs c s)).2.length = _
    have h' : nextF rs c (iterF rs c n (stepF rs c s)).1 = some k := h
    rw [iter_len n _ k h']
    cases hn : nextF rs c s.1 with
    | none =>
      rw [iter_none hn] at h
      rw [hn] at h
      cases h
    | some j =>
      rw [step_some hn]
      simp
      omega
theorem nodup_le : ∀ (l m : List Nat), l.Nodup → (∀ x ∈ l, x ∈ m) → l.length ≤ m.length
  | [], m, _, _ => Nat.zero_le _
  | x :: l, m, hn, h => by
    obtain ⟨h1, h2⟩ := List.nodup_cons.mp hn
    have hx := h x List.mem_cons_self
    have hp := List.perm_cons_erase hx
    rw [hp.length_eq]
    have := nodup_le l (m.erase x) h2 fun y hy => (List.mem_erase_of_ne (fun e => h1 (by rw [← e]; exact hy))).mpr (h y (List.mem_cons_of_mem _ hy))
    simp only [List.length_cons]
    omega
theorem fixed {s : Sf} (h : InvF rs c s) : nextF rs c (iterF rs c c s).1 = none := by
  cases hn : nextF rs c (iterF rs c c s).1 with
  | none => rfl
  | some k =>
    have hl := iter_len c s k hn
    have hi := InvF.iter c h
    obtain ⟨h1, h2⟩ := next_is hn
    have hk : k ∉ (iterF rs c c s).2 := fun z => by
      have := (hi.2 k z).2
      rw [h2] at this
      cases this
    have := nodup_le (k :: (iterF rs c c s).2) (List.range c) (List.nodup_cons.mpr ⟨hk, hi.1⟩) fun x hx => by
      rcases List.mem_cons.mp hx with rfl | hx
      · exact List.mem_range.mpr h1
      · exact List.mem_range.mpr (hi.2 x hx).1
    simp only [List.length_cons, List.length_range] at this
    omega
theorem next_nil (rs : List (List Int)) (c : Nat) : nextF rs c [] = none := by
  unfold nextF
  rw [List.find?_eq_none]
  intro k _
  simp [okF, hasV]
theorem drop_le (left : List Nat) (k : Nat) : (dropF rs left k).length ≤ left.length := List.length_filter_le _ _
theorem drop_mem {left : List Nat} {k i : Nat} (h : i ∈ dropF rs left k) : i ∈ left := (List.mem_filter.mp h).1
end
/-! ### order_of_falls -/
def orderBody (C : CallT) : SM := sSeq [(sFrz [1] (sSet 3 (callC C "next_counter" [(V (vVar 0)), (V (vVar 1))]))), (sIf (cmpE .Is (pVar 3) (V (kE .non))) (sSeq [(sRaise EI "Stuck" [(V (bltE "tuple" (pVar 1)))])]) (sSeq [])), (sMut 2 "append" [(V (vVar 3))] (fun _ => sNx)), (sSet 1 (lcM (tgN 4) (cmpE .NotEq (V (ixE (V (ixE (pVar 0) (V (vVar 4)))) (V (vVar 3)))) (V (kE (.int 1)))) (V (vVar 4)) [4] (itX (pVar 1))))]
theorem order_eq (C : CallT) : m_order_of_falls C = sSeq [(sSet 1 (listRgE (V (lenE (pVar 0))))), (sSet 2 (lstE [])), sWh (truE (pVar 1)) (orderBody C), (sRet (bltE "tuple" (pVar 2)))] := rfl
def stuck (L : List Nat) : Xn := ⟨"Stuck", some [("rules", .tup (nats L))]⟩
def dropP (rs : List (List Int)) (k : Nat) : D → Bool
  | .int i => !decide (cell rs i.toNat k = 1)
  | _ => true
theorem dropP_eq (rs : List (List Int)) (left : List Nat) (k : Nat) : ((nats left).filter (dropP rs k)).map id = nats (dropF rs left k) := by
  rw [List.map_id, nats_filter]
  rfl
section
variable {rs : List (List Int)} {c : Nat}
theorem lc_drop (ok : MachOk rs c) {left : List Nat} (hl : ∀ i ∈ left, i < rs.length) (hz : left.length ≤ 1000) {k : Nat} (hk : k < c) {tg : D → Env → Option Env} {tst : EM Bool} {el : EM D} {σ : Env} {T : Sto}
    (h : ∀ i : Nat, i < rs.length → ∃ σ1, tg (.int (i : Int)) σ = some σ1 ∧ tst σ1 T = .ok (!decide (cell rs i k = 1)) T ∧ el σ1 T = .ok (.int (i : Int)) T) : lcK tg tst el σ (nats left) T = .ok (.lst (nats (dropF rs left k)), true) T := by
  have e := lc_map (tg := tg) (tst := tst) (el := el) (σ := σ) (T := T) (dropP rs k) id (nats left) [] (by rw [nats_len]; show 0 + _ < _; omega) (fun d hd => by
    obtain ⟨i, hi, rfl⟩ := nats_mem hd
    obtain ⟨σ1, e1, e2, e3⟩ := h i (hl i hi)
    exact ⟨σ1, e1, e2, fun _ => e3⟩)
  rw [List.nil_append, dropP_eq] at e
  exact lcK_ok e
theorem body_some (ok : MachOk rs c) (n : Nat) {left order : List Nat} (hl : ∀ i ∈ left, i < rs.length) (hz : left.length ≤ 1000) (ho : order.length ≤ 1000) {k : Nat} (hn : nextF rs c left = some k) (s3 s4 : Sl) (T : Sto) :
    orderBody (cl (n + 1)) [.fz (.tup (rs.map tupI)), .ow (.lst (nats left)), .ow (.lst (nats order)), s3, s4] T = .nx [.fz (.tup (rs.map tupI)), .ow (.lst (nats (dropF rs left k))), .ow (.lst (nats (order ++ [k]))), .fz (.int (k : Int)), s4] T := by
  have e1 := next_ok ok n left hl hz T
  rw [hn] at e1
  have e1 : cl (n + 1) "next_counter" [.tup (rs.map tupI), .lst (nats left)] T = .ok (.int (k : Int), false) T := e1
  have hk := (next_is hn).1
  have e2 := lc_drop ok hl hz hk (tg := tgN 4) (tst := cmpE .NotEq (V (ixE (V (ixE (pVar 0) (V (vVar 4)))) (V (vVar 3)))) (V (kE (.int 1)))) (el := V (vVar 4)) (σ := [.fz (.tup (rs.map tupI)), .fz (.lst (nats left)), .ow (.lst (nats order ++ [.int (k : Int)])), .fz (.int (k : Int)), .no]) (T := T) (fun i hi => ⟨_, rfl, by simp [row_at i hi, cell_at ok i k hi hk], by simp⟩)
  have hoo : order.length < 16777216 := by omega
  have en : nats (order ++ [k]) = nats order ++ [.int (k : Int)] := nats_app _ _
  rw [en]
  simp [orderBody, e1, hoo, e2]
theorem body_none (ok : MachOk rs c) (n : Nat) {left order : List Nat} (hl : ∀ i ∈ left, i < rs.length) (hz : left.length ≤ 1000) (hn : nextF rs c left = none) (s3 s4 : Sl) (T : Sto) :
    ∃ σ', orderBody (cl (n + 1)) [.fz (.tup (rs.map tupI)), .ow (.lst (nats left)), .ow (.lst (nats order)), s3, s4] T = .ex (stuck left) σ' T := by
  have e1 := next_ok ok n left hl hz T
  rw [hn] at e1
  have e1 : cl (n + 1) "next_counter" [.tup (rs.map tupI), .lst (nats left)] T = .ok (.non, false) T := e1
  have e2 : EI.mkX "Stuck" [.tup (nats left)] = some (stuck left) := rfl
  simp [orderBody, e1, e2]
theorem tru_nats (left : List Nat) : truD (.lst (nats left)) = some (!left.isEmpty) := by
  cases left <;> rfl
theorem while_ok (ok : MachOk rs c) (m : Nat) : ∀ (n fuel : Nat) (left order : List Nat) (s3 s4 : Sl) (T : Sto), (∀ i ∈ left, i < rs.length) → left.length ≤ 1000 → order.length + n ≤ 1000 → nextF rs c (iterF rs c n (left, order)).1 = none → n < fuel →
    ((iterF rs c n (left, order)).1 = [] ∧ ∃ u3 u4, whileLoop (truE (pVar 1)) (orderBody (cl (m + 1))) fuel [.fz (.tup (rs.map tupI)), .ow (.lst (nats left)), .ow (.lst (nats order)), s3, s4] T = .nx [.fz (.tup (rs.map tupI)), .ow (.lst (nats (iterF rs c n (left, order)).1)), .ow (.lst (nats (iterF rs c n (left, order)).2)), u3, u4] T) ∨
    ((iterF rs c n (left, order)).1 ≠ [] ∧ ∃ σ', whileLoop (truE (pVar 1)) (orderBody (cl (m + 1))) fuel [.fz (.tup (rs.map tupI)), .ow (.lst (nats left)), .ow (.lst (nats order)), s3, s4] T = .ex (stuck (iterF rs c n (left, order)).1) σ' T)
  | n, 0, left, order, s3, s4, T, hl, hz, ho, hf, hlt => absurd hlt (Nat.not_lt_zero _)
  | n, fuel + 1, left, order, s3, s4, T, hl, hz, ho, hf, hlt => by
    have et : truE (pVar 1) [.fz (.tup (rs.map tupI)), .ow (.lst (nats left)), .ow (.lst (nats order)), s3, s4] T = .ok (!left.isEmpty) T := by
      have : (nats left).isEmpty = left.isEmpty := by cases left <;> rfl
      simp [this]
    cases left with
    | nil =>
      left
      have e := iter_none (rs := rs) (c := c) (s := ([], order)) (next_nil rs c) n
      rw [e, while_f et]
      exact ⟨rfl, s3, s4, rfl⟩
    | cons x left =>
      have et : truE (pVar 1) [.fz (.tup (rs.map tupI)), .ow (.lst (nats (x :: left))), .ow (.lst (nats order)), s3, s4] T = .ok true T := et
      cases hn : nextF rs c (x :: left) with
      | none =>
        right
        have e := iter_none (rs := rs) (c := c) (s := (x :: left, order)) hn n
        obtain ⟨σ', eb⟩ := body_none ok m hl hz hn s3 s4 T (order := order)
        rw [e, while_x et eb]
        exact ⟨by simp, σ', rfl⟩
      | some k =>
        cases n with
        | zero =>
          have hf : nextF rs c (x :: left) = none := hf
          rw [hn] at hf
          cases hf
        | succ n =>
          have e : iterF rs c (n + 1) (x :: left, order) = iterF rs c n (dropF rs (x :: left) k, order ++ [k]) := by
            show iterF rs c n (stepF rs c _) = _
            rw [step_some hn]
          rw [e] at hf ⊢
          rw [while_t et (body_some ok m hl hz (by omega) hn s3 s4 T)]
          exact while_ok ok m n fuel _ _ _ _ T (fun i hi => hl i (drop_mem hi)) (Nat.le_trans (drop_le _ _) hz) (by simp; omega) hf (by omega)
/-- the end of the falls -/
def endF (rs : List (List Int)) (c : Nat) : Sf := iterF rs c c (List.range rs.length, [])
theorem inv0 (rs : List (List Int)) (c : Nat) (l : List Nat) : InvF rs c (l, []) := ⟨List.nodup_nil, by simp⟩
theorem order_ok (ok : MachOk rs c) (n : Nat) (T : Sto) : cl (n + 2) "order_of_falls" [.tup (rs.map tupI)] T = if (endF rs c).1 = [] then .ok (.tup (nats (endF rs c).2), false) T else .ex (stuck (endF rs c).1) T := by
  rw [r_order, order_eq]
  have hrl : rs.length ≤ 16777216 := by have := ok.l1; omega
  have h := while_ok ok n c loopFuel (List.range rs.length) [] .no .no T (fun i hi => List.mem_range.mp hi) (by rw [List.length_range]; have := ok.l1; omega) (by have := ok.c1; simp; omega) (fixed (inv0 rs c _)) (by have := ok.c1; unfold loopFuel; omega)
  have e0 : nats [] = [] := rfl
  simp [rangeN, hrl]
  rw [e0] at h
  have ew : ∀ (σ : Env) (T : Sto), sWh (truE (pVar 1)) (orderBody (cl (n + 1))) σ T = whileLoop (truE (pVar 1)) (orderBody (cl (n + 1))) loopFuel σ T := fun _ _ => rfl
  rw [ew]
  rcases h with ⟨h0, s3, s4, h⟩ | ⟨h0, σ', h⟩
  · rw [h]
    have h0' : (endF rs c).1 = [] := h0
    rw [if_pos h0']
    simp [endF]
  · rw [h]
    have h0' : ¬ (endF rs c).1 = [] := h0
    rw [if_neg h0']
    simp [endF]
end
end K76


set_option Elab.async false
set_option linter.all false
set_option maxRecDepth 100000
set_option maxHeartbeats 4000000
namespace K76
open PySem hiding Env
open Mi
/-! ### _law_due -/
def dueBody (C : CallT) : SM := sSeq [(sSet 4 (lcM (tgN 5) (tAllE [(cmpE .NotIn (pVar 5) (pVar 2)), (truE (V (bltE "any" (V (lcM (tgN 6) yesE (V (blE (cmpE .Eq (V (ixE (V (ixE (pVar 0) (V (vVar 6)))) (V (vVar 5)))) (V (kE (.int 1)))))) [6] (itX (pVar 1)))))))]) (V (vVar 5)) [5] (itR1 (V (lenE (V (ixE (pVar 0) (V (kE (.int 0)))))))))), (sSet 4 (lcM (tgN 5) (tNotE (truE (V (bltE "any" (V (lcM (tgN 6) yesE (V (blE (cmpE .Eq (V (ixE (V (ixE (pVar 0) (V (vVar 6)))) (V (vVar 5)))) (V (kE (.int 2)))))) [6] (itX (pVar 1)))))))) (V (vVar 5)) [5] (itX (pVar 4)))), (sIf (truE (pVar 4)) (sSeq [(sMut 2 "append" [(V (ixE (pVar 4) (V (kE (.int 0)))))] (fun _ => sNx)), (sSet 1 (lcM (tgN 6) (cmpE .NotEq (V (ixE (V (ixE (pVar 0) (V (vVar 6)))) (V (ixE (pVar 4) (V (kE (.int 0))))))) (V (kE (.int 1)))) (V (vVar 6)) [6] (itX (pVar 1))))]) (sSeq []))]
theorem due_eq (C : CallT) : m__law_due C = sSeq [(sSet 1 (listRgE (V (lenE (pVar 0))))), (sSet 2 (lstE [])), (sFor (tgN 3) (itR1 (V (lenE (V (ixE (pVar 0) (V (kE (.int 0)))))))) (dueBody C)), (sRet (lstE [(V (bltE "tuple" (pVar 2))), (V (bltE "tuple" (pVar 1)))]))] := rfl
section
variable {rs : List (List Int)} {c : Nat}
def eqAt (rs : List (List Int)) (k : Nat) (v : Int) : D → D
  | .int i => .bl (decide (cell rs i.toNat k = v))
  | d => d
theorem eqAt_map (left : List Nat) (k : Nat) (v : Int) : (nats left).map (eqAt rs k v) = (left.map fun i => decide (cell rs i k = v)).map .bl := by
  unfold nats
  rw [List.map_map, List.map_map]
  rfl
theorem any_at (ok : MachOk rs c) {left : List Nat} (hl : ∀ i ∈ left, i < rs.length) (hz : left.length ≤ 1000) {k : Nat} (hk : k < c) (v : Int) (s1 s2 s3 s4 : Sl) (T : Sto) :
    lcK (tgN 6) yesE (V (blE (cmpE .Eq (V (ixE (V (ixE (pVar 0) (V (vVar 6)))) (V (vVar 5)))) (V (kE (.int v)))))) [.fz (.tup (rs.map tupI)), s1, s2, s3, s4, .fz (.int (k : Int)), .no] (nats left) T = .ok (.lst ((left.map fun i => decide (cell rs i k = v)).map .bl), true) T := by
  have e := lc_mapY (tg := tgN 6) (el := V (blE (cmpE .Eq (V (ixE (V (ixE (pVar 0) (V (vVar 6)))) (V (vVar 5)))) (V (kE (.int v)))))) (σ := [.fz (.tup (rs.map tupI)), s1, s2, s3, s4, .fz (.int (k : Int)), .no]) (T := T) (eqAt rs k v) (nats left) (by rw [nats_len]; omega) (fun d hd => by
    obtain ⟨i, hi, rfl⟩ := nats_mem hd
    exact ⟨_, rfl, by simp [row_at i (hl i hi), cell_at ok i k (hl i hi) hk, eqAt]⟩)
  rw [eqAt_map] at e
  exact lcK_ok e
theorem any_has (left : List Nat) (k : Nat) (v : Int) : bltD "any" [.lst ((left.map fun i => decide (cell rs i k = v)).map .bl)] = some (.bl (hasV rs left k v), false) := by
  rw [blt_any]
  congr 3
  unfold hasV
  rw [List.any_map]
  congr 1
theorem nin_nats (k : Nat) (ks : List Nat) : cmpD .NotIn (.int (k : Int)) (.lst (nats ks)) = some (!ks.contains k) := by
  have e : nats ks = iL (ks.map fun (i : Nat) => (i : Int)) := by simp [nats, iL, Function.comp_def]
  rw [e, nin_iL]
  congr 2
  rw [List.any_map, List.contains_eq_any_beq]
  congr 1
  funext i
  rw [Bool.eq_iff_iff]
  simp
  omega
def f1 (rs : List (List Int)) (c : Nat) (left order : List Nat) : List Nat := (List.range c).filter fun k => !order.contains k && hasV rs left k 1
def f2 (rs : List (List Int)) (c : Nat) (left order : List Nat) : List Nat := (f1 rs c left order).filter fun k => !hasV rs left k 2
def onI (p : Nat → Bool) : D → Bool
  | .int i => p i.toNat
  | _ => true
theorem onI_filter (p : Nat → Bool) (ks : List Nat) : ((nats ks).filter (onI p)).map id = nats (ks.filter p) := by
  rw [List.map_id, nats_filter]
  rfl
theorem lc_nats (p : Nat → Bool) {tg : D → Env → Option Env} {tst : EM Bool} {el : EM D} {σ : Env} {T : Sto} (ks : List Nat) (hz : ks.length ≤ 1000)
    (h : ∀ k ∈ ks, ∃ σ1, tg (.int ((k : Nat) : Int)) σ = some σ1 ∧ tst σ1 T = .ok (p k) T ∧ el σ1 T = .ok (.int (k : Int)) T) : lcK tg tst el σ (nats ks) T = .ok (.lst (nats (ks.filter p)), true) T := by
  have e := lc_map (tg := tg) (tst := tst) (el := el) (σ := σ) (T := T) (onI p) id (nats ks) [] (by rw [nats_len]; show 0 + _ < _; omega) (fun d hd => by
    obtain ⟨i, hi, rfl⟩ := nats_mem hd
    obtain ⟨σ1, e1, e2, e3⟩ := h i hi
    exact ⟨σ1, e1, e2, fun _ => e3⟩)
  rw [List.nil_append, onI_filter] at e
  exact lcK_ok e
theorem f2_head (left order : List Nat) (inv : InvF rs c (left, order)) : (f2 rs c left order).head? = nextF rs c left := by
  unfold f2 f1 nextF
  rw [List.filter_filter, List.head?_filter]
  congr 1
  funext k
  unfold okF
  cases h1 : hasV rs left k 1 with
  | false => simp
  | true =>
    have : k ∉ order := fun z => by
      have := (inv.2 k z).2
      rw [h1] at this
      cases this
    simp [this]
theorem f1_lt {left order : List Nat} {k : Nat} (h : k ∈ f1 rs c left order) : k < c := List.mem_range.mp (List.mem_filter.mp h).1
theorem nats_cons (k : Nat) (ks : List Nat) : nats (k :: ks) = .int (k : Int) :: nats ks := rfl
theorem due_body (ok : MachOk rs c) (C : CallT) {left order : List Nat} (hl : ∀ i ∈ left, i < rs.length) (hz : left.length ≤ 1000) (ho : order.length ≤ 1000) (inv : InvF rs c (left, order)) (s3 s4 s5 s6 : Sl) (T : Sto) :
    ∃ u4 u5 u6, dueBody C [.fz (.tup (rs.map tupI)), .ow (.lst (nats left)), .ow (.lst (nats order)), s3, s4, s5, s6] T =
      .nx [.fz (.tup (rs.map tupI)), .ow (.lst (nats (stepF rs c (left, order)).1)), .ow (.lst (nats (stepF rs c (left, order)).2)), s3, u4, u5, u6] T := by
  have hc : c ≤ 16777216 := by have := ok.c1; omega
  have hr0 := row0 ok
  have hl0 := row0_len ok
  simp only [iL_len] at hl0
  have e1 := lc_nats (tg := tgN 5) (el := V (vVar 5)) (tst := tAllE [(cmpE .NotIn (pVar 5) (pVar 2)), (truE (V (bltE "any" (V (lcM (tgN 6) yesE (V (blE (cmpE .Eq (V (ixE (V (ixE (pVar 0) (V (vVar 6)))) (V (vVar 5)))) (V (kE (.int 1)))))) [6] (itX (pVar 1)))))))])
    (σ := [.fz (.tup (rs.map tupI)), .ow (.lst (nats left)), .ow (.lst (nats order)), s3, s4, .no, s6]) (T := T) (fun k => !order.contains k && hasV rs left k 1) (List.range c) (by have := ok.c1; simp; omega) (fun k hk => by
      have hk := List.mem_range.mp hk
      refine ⟨_, rfl, ?_, by simp⟩
      have hi := nin_nats k order
      have ha := any_at ok hl hz hk 1 (.ow (.lst (nats left))) (.ow (.lst (nats order))) s3 s4 T
      have hb := any_has (rs := rs) left k 1
      cases hq : order.contains k with
      | true =>
        rw [hq] at hi
        simp [hi]
      | false =>
        rw [hq] at hi
        simp only [List.map_map] at ha hb
        simp [hi, ha, hb]
        cases hasV rs left k 1 <;> simp)
  have e1 : lcK _ _ _ _ _ _ = .ok (.lst (nats (f1 rs c left order)), true) T := e1
  have hf1 : (f1 rs c left order).length ≤ 1000 := by
    have := List.length_filter_le (fun k => !order.contains k && hasV rs left k 1) (List.range c)
    have h2 := ok.c1
    rw [List.length_range] at this
    unfold f1
    omega
  have e2 := lc_nats (tg := tgN 5) (el := V (vVar 5)) (tst := tNotE (truE (V (bltE "any" (V (lcM (tgN 6) yesE (V (blE (cmpE .Eq (V (ixE (V (ixE (pVar 0) (V (vVar 6)))) (V (vVar 5)))) (V (kE (.int 2)))))) [6] (itX (pVar 1))))))))
    (σ := [.fz (.tup (rs.map tupI)), .ow (.lst (nats left)), .ow (.lst (nats order)), s3, .ow (.lst (nats (f1 rs c left order))), .no, s6]) (T := T) (fun k => !hasV rs left k 2) (f1 rs c left order) hf1 (fun k hk => by
      have hk := f1_lt hk
      refine ⟨_, rfl, ?_, by simp⟩
      have ha := any_at ok hl hz hk 2 (.ow (.lst (nats left))) (.ow (.lst (nats order))) s3 (.ow (.lst (nats (f1 rs c left order)))) T
      have hb := any_has (rs := rs) left k 2
      simp only [List.map_map] at ha hb
      simp [ha, hb])
  have e2 : lcK _ _ _ _ _ _ = .ok (.lst (nats (f2 rs c left order)), true) T := e2
  have hh := f2_head left order inv
  have hrg : rangeD 0 c = nats (List.range c) := rangeN c
  cases hf : f2 rs c left order with
  | nil =>
    rw [hf] at hh e2
    have hn : nextF rs c left = none := hh.symm
    rw [step_none hn]
    have en : (nats ([] : List Nat)) = [] := rfl
    refine ⟨.ow (.lst []), s5, s6, ?_⟩
    rw [en] at e2
    simp [dueBody, hr0, hl0, hc, hrg, e1, e2]
  | cons k ks =>
    rw [hf] at hh e2
    have hn : nextF rs c left = some k := hh.symm
    rw [step_some hn]
    have hk := (next_is hn).1
    have hoo : order.length < 16777216 := by omega
    have e3 := lc_drop ok hl hz hk (tg := tgN 6) (tst := cmpE .NotEq (V (ixE (V (ixE (pVar 0) (V (vVar 6)))) (V (ixE (pVar 4) (V (kE (.int 0))))))) (V (kE (.int 1)))) (el := V (vVar 6)) (σ := [.fz (.tup (rs.map tupI)), .ow (.lst (nats left)), .ow (.lst (nats order ++ [.int (k : Int)])), s3, .ow (.lst (.int (k : Int) :: nats ks)), s5, .no]) (T := T) (fun i hi => ⟨_, rfl, by simp [row_at i hi, cell_at ok i k hi hk], by simp⟩)
    have en : nats (order ++ [k]) = nats order ++ [.int (k : Int)] := nats_app _ _
    refine ⟨.ow (.lst (.int (k : Int) :: nats ks)), s5, s6, ?_⟩
    rw [nats_cons] at e2
    show _ = RS.nx [_, _, Sl.ow (.lst (nats (order ++ [k]))), _, _, _, _] T
    rw [en]
    simp [dueBody, hr0, hl0, hc, hrg, e1, e2, hoo, e3]
theorem iter_stepF : ∀ (n : Nat) (s : Sf), iterF rs c n (stepF rs c s) = iterF rs c (n + 1) s := fun _ _ => rfl
theorem step_len {s : Sf} (h : InvF rs c s) : s.2.length ≤ c := by
  have := nodup_le s.2 (List.range c) h.1 fun x hx => List.mem_range.mpr (h.2 x hx).1
  simpa using this
theorem step_left {s : Sf} : (∀ i ∈ (stepF rs c s).1, i ∈ s.1) ∧ (stepF rs c s).1.length ≤ s.1.length := by
  cases hn : nextF rs c s.1 with
  | none => rw [step_none hn]; exact ⟨fun i h => h, Nat.le_refl _⟩
  | some k => rw [step_some hn]; exact ⟨fun i h => drop_mem h, drop_le _ _⟩
def dueD (s : Sf) : D := .lst [.tup (nats s.2), .tup (nats s.1)]
theorem due_ok (ok : MachOk rs c) (n : Nat) (T : Sto) : cl (n + 1) "_law_due" [.tup (rs.map tupI)] T = .ok (dueD (endF rs c), true) T := by
  rw [r_due, due_eq]
  have hrl : rs.length ≤ 16777216 := by have := ok.l1; omega
  have hc : c ≤ 16777216 := by have := ok.c1; omega
  have hr0 := row0 ok
  have hl0 := row0_len ok
  simp only [iL_len] at hl0
  have hrg : rangeD 0 c = nats (List.range c) := rangeN c
  have hrs : rangeD 0 rs.length = nats (List.range rs.length) := rangeN _
  have hcc : ∀ ds : List D, ds = nats (List.range c) → ds.length = c := fun ds h => by rw [h, nats_len, List.length_range]
  simp [hrl, hrs, hr0, hl0, hc, hrg]
  refine for_then (P := fun r => finR r = .ok (dueD (endF rs c), true) T)
    (fun ds σ T' => T' = T ∧ ∃ s s3 s4 s5 s6, σ = [.fz (.tup (rs.map tupI)), .ow (.lst (nats s.1)), .ow (.lst (nats s.2)), s3, s4, s5, s6] ∧ iterF rs c ds.length s = endF rs c ∧ InvF rs c s ∧ (∀ i ∈ s.1, i < rs.length) ∧ s.1.length ≤ 1000)
    ?_ ⟨rfl, (List.range rs.length, []), .no, .no, .no, .no, rfl, by rw [nats_len, List.length_range]; rfl, inv0 rs c _, fun i hi => List.mem_range.mp hi, by have := ok.l1; simp; omega⟩ ?_
  · rintro d ds σ T' ⟨rfl, s, s3, s4, s5, s6, rfl, hi, inv, hl, hz⟩
    obtain ⟨left, order⟩ := s
    have ho := step_len inv
    have h8 := ok.c1
    obtain ⟨u4, u5, u6, e⟩ := due_body ok (cl n) hl hz (by show order.length ≤ 1000; have : order.length ≤ c := ho; omega) inv (.fz d) s4 s5 s6 T'
    refine ⟨_, _, _, rfl, e, rfl, stepF rs c (left, order), _, _, _, _, rfl, hi, inv.step, fun i h => hl i (step_left.1 i h), Nat.le_trans step_left.2 hz⟩
  · rintro σ T' ⟨rfl, s, s3, s4, s5, s6, rfl, hi, inv, hl, hz⟩
    have hi : s = endF rs c := hi
    subst hi
    simp [dueD]
end
end K76


set_option Elab.async false
set_option linter.all false
set_option maxRecDepth 100000
set_option maxHeartbeats 4000000
namespace K76
open PySem hiding Env
open Mi
/-! ### _law_is_told -/
theorem r_same (n : Nat) (a b : D) (T : Sto) : cl (n + 1) "_law_same" [a, b] T = finR (m__law_same (cl n) [.fz a, .fz b, .no] T) := cl_succ (d := d__law_same) (by kernel_rfl) (by kernel_rfl) (c__law_same _)
theorem r_told (n : Nat) (a : D) (T : Sto) : cl (n + 1) "_law_is_told" [a] T = finR (m__law_is_told (cl n) [.fz a, .no, .no, .no] T) := cl_succ (d := d__law_is_told) (by kernel_rfl) (by kernel_rfl) (c__law_is_told _)
theorem nats_plain : ∀ ls : List Nat, D.plains (nats ls) = true
  | [] => rfl
  | l :: ls => nats_plain ls
theorem nats_deep : ∀ ls : List Nat, D.deeps (nats ls) = 0
  | [] => rfl
  | l :: ls => by
    show max 0 (D.deeps (nats ls)) = 0
    rw [nats_deep ls]
    rfl
theorem eqv_self : ∀ ls : List Nat, PyData.eqvAll (D.pys (nats ls)) (D.pys (nats ls)) = true
  | [] => by simp [nats, D.pys, PyData.eqvAll]
  | l :: ls => by
    have h : D.pys (nats (l :: ls)) = .int (l : Int) :: D.pys (nats ls) := rfl
    rw [h, PyData.eqvAll, eqv_self ls]
    simp [PyData.eqv]
theorem eq_self (ls : List Nat) : cmpD .Eq (.tup (nats ls)) (.tup (nats ls)) = some true := by
  have e : cmpD .Eq (.tup (nats ls)) (.tup (nats ls)) = if D.plains (nats ls) && D.plains (nats ls) && decide (min (D.deeps (nats ls) + 1) (D.deeps (nats ls) + 1) ≤ 190) then some (PyData.eqv (.tuple (D.pys (nats ls))) (.tuple (D.pys (nats ls)))) else none := rfl
  rw [e, nats_plain, nats_deep, PyData.eqv, eqv_self]
  rfl
theorem eq_nil (ls : List Nat) : cmpD .Eq (.tup (nats ls)) (.tup []) = some ls.isEmpty := by
  have e : cmpD .Eq (.tup (nats ls)) (.tup []) = if D.plains (nats ls) && D.plains [] && decide (min (D.deeps (nats ls) + 1) 1 ≤ 190) then some (PyData.eqv (.tuple (D.pys (nats ls))) (.tuple [])) else none := rfl
  rw [e, nats_plain, nats_deep, PyData.eqv]
  cases ls with
  | nil => rfl
  | cons l ls =>
    have h : D.pys (nats (l :: ls)) = .int (l : Int) :: D.pys (nats ls) := rfl
    rw [h, PyData.eqvAll]
    rfl
theorem same_ok (n : Nat) (ls : List Nat) (hz : ls.length ≤ 1000) (T : Sto) : cl (n + 1) "_law_same" [.tup (nats ls), .tup (nats ls)] T = .ok (.bl true, false) T := by
  rw [r_same]
  have e := lc_mapY (tg := tgN 2) (el := V (andE [V (isiE "int" (pVar 2)), V (notE (V (isiE "bool" (pVar 2))))])) (σ := [.fz (.tup (nats ls)), .fz (.tup (nats ls)), .no]) (T := T) (fun _ => .bl true) (nats ls) (by rw [nats_len]; omega) (fun d hd => by
    obtain ⟨i, hi, rfl⟩ := nats_mem hd
    exact ⟨_, rfl, by simp⟩)
  have e := lcK_ok e
  have ea : bltD "all" [.lst ((nats ls).map fun _ => .bl true)] = some (.bl true, false) := by
    have := blt_all (ls.map fun _ => true)
    rw [List.map_map, List.all_map] at this
    have h2 : (nats ls).map (fun _ => D.bl true) = ls.map (D.bl ∘ fun _ => true) := by
      unfold nats
      rw [List.map_map]
      rfl
    rw [h2, this]
    congr 3
    simp
  have e3 := eq_self ls
  simp only [List.map_const', nats_len] at e ea
  simp [m__law_same, e, ea, e3]
theorem told_eq (C : CallT) : m__law_is_told C = sSeq [(sSet 1 (callC C "_law_due" [(V (vVar 0))])), (tryMS C), (sRet (andE [(V (blE (cmpE .Eq (V (ixE (pVar 1) (V (kE (.int 1))))) (V (tupE []))))), (V (callC C "_law_same" [(V (vVar 3)), (V (ixE (pVar 1) (V (kE (.int 0)))))]))]))] := rfl
theorem ints_nats : ∀ ls : List Nat, intsOf (nats ls) = some (ls.map fun (i : Nat) => (i : Int))
  | [] => rfl
  | l :: ls => by
    show (intsOf (nats ls)).map _ = _
    rw [ints_nats ls]
    rfl
section
variable {rs : List (List Int)} {c : Nat}
theorem end_left (ok : MachOk rs c) : (endF rs c).1.length ≤ 1000 := by
  have : ∀ (n : Nat) (s : Sf), (iterF rs c n s).1.length ≤ s.1.length := fun n => by
    induction n with
    | zero => exact fun s => Nat.le_refl _
    | succ n ih => exact fun s => Nat.le_trans (ih _) step_left.2
  have h := this c (List.range rs.length, [])
  have := ok.l1
  simp only [List.length_range] at h
  unfold endF
  omega
theorem end_order (ok : MachOk rs c) : (endF rs c).2.length ≤ 1000 := by
  have h := step_len (InvF.iter c (inv0 rs c (List.range rs.length)))
  have := ok.c1
  unfold endF
  omega
theorem told_ok (ok : MachOk rs c) (n : Nat) (T : Sto) : cl (n + 3) "_law_is_told" [.tup (rs.map tupI)] T = .ok (.bl true, false) T := by
  rw [r_told, told_eq]
  have e1 := due_ok ok (n + 1) T
  have e2 := order_ok ok n T
  have hso := same_ok (n + 1) (endF rs c).2 (end_order ok) T
  have hlz := eq_nil (endF rs c).1
  have et : ∀ (σ : Env) (T : Sto), tryMS (cl (n + 2)) σ T = catchM (sSet 3 (callC (cl (n + 2)) "order_of_falls" [V (vVar 0)]) σ T) := fun _ _ => rfl
  unfold dueD at e1
  by_cases h : (endF rs c).1 = []
  · rw [if_pos h] at e2
    rw [h] at hlz e1
    have ec : ∀ (σ : Env) (T : Sto), catchM (.nx σ T) = .nx σ T := fun _ _ => rfl
    have en : nats ([] : List Nat) = [] := rfl
    rw [en] at hlz e1
    simp [e1, et, e2, ec, hlz, hso]
  · rw [if_neg h] at e2
    have ec : ∀ (o : D) (T : Sto), catchM (.ex (stuck (endF rs c).1) [.fz (.tup (rs.map tupI)), .ow (.lst [o, .tup (nats (endF rs c).1)]), .no, .no] T) = .rt (.bl true) false T := fun o T => by
      show (if ("Stuck" : Str) = ("Stuck" : Str) ∧ ("rules" : Str) = ("rules" : Str) ∧ (nats (endF rs c).1).length ≤ 1000 then (match intsOf (nats (endF rs c).1), intsOf (nats (endF rs c).1) with
        | some is, some js => RS.rt (.bl (!js.isEmpty && decide (is = js))) false T
        | _, _ => .bad) else .bad) = _
      rw [if_pos ⟨rfl, rfl, by rw [nats_len]; exact end_left ok⟩, ints_nats]
      cases hq : (endF rs c).1 with
      | nil => exact absurd hq h
      | cons x xs => simp
    simp [e1, et, e2, ec]
end
end K76


set_option Elab.async false
set_option linter.all false
set_option maxRecDepth 100000
set_option maxHeartbeats 4000000
namespace K76
open PySem hiding Env
open Mi
/-! ### values that may be machines -/
mutual
def bnd (w : Nat) : D → Bool
  | .tup ds => decide (ds.length ≤ w) && bnds w ds
  | .lst ds => decide (ds.length ≤ w) && bnds w ds
  | _ => true
def bnds (w : Nat) : List D → Bool
  | [] => true
  | d :: ds => bnd w d && bnds w ds
end
def Bd (w : Nat) (v : D) : Prop := v.plain = true ∧ bnd w v = true
theorem bnds_iff {w : Nat} : ∀ {ds : List D}, bnds w ds = true ↔ ∀ d ∈ ds, bnd w d = true
  | [] => by simp [bnds]
  | d :: ds => by
    have e : bnds w (d :: ds) = (bnd w d && bnds w ds) := rfl
    rw [e, Bool.and_eq_true, bnds_iff]
    simp
theorem plains_iff : ∀ {ds : List D}, D.plains ds = true ↔ ∀ d ∈ ds, d.plain = true
  | [] => by simp [D.plains]
  | d :: ds => by
    have e : D.plains (d :: ds) = (d.plain && D.plains ds) := rfl
    rw [e, Bool.and_eq_true, plains_iff]
    simp
theorem Bd.tup {w : Nat} {ds : List D} (hl : ds.length ≤ w) (h : ∀ d ∈ ds, Bd w d) : Bd w (.tup ds) := by
  refine ⟨plains_iff.mpr fun d hd => (h d hd).1, ?_⟩
  show (decide (ds.length ≤ w) && bnds w ds) = true
  rw [decide_eq_true hl, Bool.true_and]
  exact bnds_iff.mpr fun d hd => (h d hd).2
theorem Bd.of_tup {w : Nat} {ds : List D} (h : Bd w (.tup ds)) : ds.length ≤ w ∧ ∀ d ∈ ds, Bd w d := by
  obtain ⟨h1, h2⟩ := h
  have h2 : (decide (ds.length ≤ w) && bnds w ds) = true := h2
  rw [Bool.and_eq_true] at h2
  exact ⟨of_decide_eq_true h2.1, fun d hd => ⟨plains_iff.mp h1 d hd, bnds_iff.mp h2.2 d hd⟩⟩
mutual
theorem bnd_mono {w w' : Nat} (hw : w ≤ w') : ∀ d : D, bnd w d = true → bnd w' d = true
  | .tup ds, h => by
    have h : (decide (ds.length ≤ w) && bnds w ds) = true := h
    rw [Bool.and_eq_true] at h
    show (decide (ds.length ≤ w') && bnds w' ds) = true
    rw [decide_eq_true (Nat.le_trans (of_decide_eq_true h.1) hw), bnds_mono hw ds h.2]
    rfl
  | .lst ds, h => by
    have h : (decide (ds.length ≤ w) && bnds w ds) = true := h
    rw [Bool.and_eq_true] at h
    show (decide (ds.length ≤ w') && bnds w' ds) = true
    rw [decide_eq_true (Nat.le_trans (of_decide_eq_true h.1) hw), bnds_mono hw ds h.2]
    rfl
  | .non, _ => rfl
  | .bl _, _ => rfl
  | .int _, _ => rfl
  | .str _, _ => rfl
  | .dct _, _ => rfl
  | .obj _, _ => rfl
theorem bnds_mono {w w' : Nat} (hw : w ≤ w') : ∀ ds : List D, bnds w ds = true → bnds w' ds = true
  | [], _ => rfl
  | d :: ds, h => by
    have h : (bnd w d && bnds w ds) = true := h
    rw [Bool.and_eq_true] at h
    show (bnd w' d && bnds w' ds) = true
    rw [bnd_mono hw d h.1, bnds_mono hw ds h.2]
    rfl
end
theorem Bd.mono {w w' : Nat} {v : D} (h : Bd w v) (hw : w ≤ w') : Bd w' v := ⟨h.1, bnd_mono hw v h.2⟩
theorem Bd.dat {w : Nat} {v : D} (h : Bd w v) (hw : w < 16777216) : Dat v := by
  refine ⟨h.1, fun ds e => ?_⟩
  subst e
  obtain ⟨h1, h2⟩ := h.of_tup
  refine ⟨Nat.lt_of_le_of_lt h1 hw, fun d hd es e => ?_⟩
  have h3 := h2 d hd
  subst e
  exact Nat.lt_of_le_of_lt h3.of_tup.1 hw
theorem Bd.int (w : Nat) (i : Int) : Bd w (.int i) := ⟨rfl, rfl⟩
theorem Bd.tupI {w : Nat} {r : List Int} (h : r.length ≤ w) : Bd w (tupI r) := Bd.tup (by rw [iL_len]; exact h) fun d hd => by
  obtain ⟨i, _, rfl⟩ := List.mem_map.mp hd
  exact Bd.int w i
/-! ### odd values -/
theorem r_pick (n : Nat) (a b : D) (T : Sto) : cl (n + 1) "_law_pick" [a, b] T = finR (m__law_pick (cl n) [.fz a, .fz b] T) := cl_succ (d := d__law_pick) (by kernel_rfl) (by kernel_rfl) (c__law_pick _)
theorem r_odd (n : Nat) (a : D) (T : Sto) : cl (n + 1) "_law_odd" [a] T = finR (m__law_odd (cl n) [.fz a, .no] T) := cl_succ (d := d__law_odd) (by kernel_rfl) (by kernel_rfl) (c__law_odd _)
theorem r_exch (n : Nat) (a b c : D) (T : Sto) : cl (n + 1) "_law_exchanged" [a, b, c] T = finR (m__law_exchanged (cl n) [.fz a, .fz b, .fz c, .no, .no] T) := cl_succ (d := d__law_exchanged) (by kernel_rfl) (by kernel_rfl) (c__law_exchanged _)
theorem r_value (n : Nat) (a : D) (T : Sto) : cl (n + 1) "_law_value" [a] T = finR (m__law_value (cl n) [.fz a, .no, .no, .no, .no, .no] T) := cl_succ (d := d__law_value) (by kernel_rfl) (by kernel_rfl) (c__law_value _)
theorem pick_ok (n : Nat) {T : Sto} (hT : StO T) {ds : List D} (h0 : 0 < ds.length) (h1 : ds.length ≤ 1000) : ∃ d T', cl (n + 2) "_law_pick" [.obj 1, .lst ds] T = .ok (d, false) T' ∧ StO T' ∧ d ∈ ds := by
  rw [r_pick]
  obtain ⟨v, T', e, hT', v0, v1⟩ := draw_ok n hT (m := (ds.length : Int)) ⟨by omega, by omega⟩
  obtain ⟨q, rfl⟩ := Int.eq_ofNat_of_zero_le v0
  have hq : q < ds.length := by omega
  have hit : ∀ (σ : Env) (T : Sto), itemM (.lst ds) (.int (q : Int)) σ T = .ok ds[q] T := fun _ _ => itemL (List.getElem?_eq_getElem hq)
  refine ⟨ds[q], T', by simp [m__law_pick, e, hit], hT', List.getElem_mem hq⟩
@[simp] theorem pow_30 : binD .Pow (.int 10) (.int 30) = some (.int 1000000000000000000000000000000) := (rfl)
@[simp] theorem add_lst {xs ys : List D} (h : xs.length + ys.length ≤ 16777216) : binD .Add (.lst xs) (.lst ys) = some (.lst (xs ++ ys)) := if_pos (decide_eq_true h)
@[simp] theorem add_tup {xs ys : List D} (h : xs.length + ys.length ≤ 16777216) : binD .Add (.tup xs) (.tup ys) = some (.tup (xs ++ ys)) := if_pos (decide_eq_true h)
def oddRows : List D := [.tup [], .non, .bl true, .bl false, .int 3, .int (-1), .int 1000000000000000000000000000000, .str "", .str "1", .tup [.int 1], .tup [.tup [.int 1]], .tup [.int 0], .tup [.bl true], .tup [.non, .int 1], .tup [.tup [.int 1], .tup [.int 1, .int 1]], .tup [.tup [.tup [.int 1]]],
  .lst [.int 1], .lst [.lst [.int 1]], .lst [.tup [.int 1]], .tup [.lst [.int 1]], .tup [.tup [.int 1, .int 0], .lst [.int 0, .int 1]], .lst []]
theorem odd_bd : ∀ d ∈ oddRows, Bd 10 d := by
  have h : oddRows.all (fun d => d.plain && bnd 10 d) = true := by kernel_rfl
  intro d hd
  have := List.all_eq_true.mp h d hd
  rw [Bool.and_eq_true] at this
  exact this
theorem odd_ok (n : Nat) {T : Sto} (hT : StO T) : ∃ d T', cl (n + 3) "_law_odd" [.obj 1] T = .ok (d, false) T' ∧ StO T' ∧ Bd 10 d := by
  rw [r_odd]
  obtain ⟨d, T', e, hT', hd⟩ := pick_ok n hT (ds := oddRows) (by decide) (by decide)
  refine ⟨d, T', ?_, hT', odd_bd d hd⟩
  unfold oddRows at e
  simp [m__law_odd, e]
end K76


set_option Elab.async false
set_option linter.all false
set_option maxRecDepth 100000
set_option maxHeartbeats 4000000
namespace K76
open PySem hiding Env
open Mi
theorem truD_plain {d : D} (h : d.isTup = true) : truD d = some d.truth := by cases d <;> first | rfl | cases h
theorem exch_ok : ∀ (k n : Nat) {T : Sto} (v : D), StO T → Bd 40 v → ∃ d T', cl (n + 4 + k) "_law_exchanged" [.obj 1, v, .int (k : Int)] T = .ok (d, false) T' ∧ StO T' ∧ Bd 41 d := fun k => by
  induction k with
  | zero => exact fun n T v hT hv => exch_one 0 n v hT hv (fun h => absurd h (by omega))
  | succ k ih => exact fun n T v hT hv => exch_one (k + 1) n v hT hv (fun _ T v hT hv => by
      obtain ⟨d, T', e, h⟩ := ih n v hT hv
      exact ⟨d, T', by rw [show ((k + 1 : Nat) : Int) - 1 = (k : Int) by omega, show n + 3 + (k + 1) = n + 4 + k by omega]; exact e, h⟩)
where
  exch_one (k n : Nat) {T : Sto} (v : D) (hT : StO T) (hv : Bd 40 v) (rec : 0 < k → ∀ (T : Sto) (v : D), StO T → Bd 40 v → ∃ d T', cl (n + 3 + k) "_law_exchanged" [.obj 1, v, .int ((k : Int) - 1)] T = .ok (d, false) T' ∧ StO T' ∧ Bd 41 d) :
      ∃ d T', cl (n + 4 + k) "_law_exchanged" [.obj 1, v, .int (k : Int)] T = .ok (d, false) T' ∧ StO T' ∧ Bd 41 d := by
    rw [show n + 4 + k = (n + 3 + k) + 1 by omega, r_exch]
    have hn := noObj_plain hv.1
    obtain ⟨p, T1, e1, hT1, p0, p1⟩ := draw_ok (n + 2 + k) hT (m := 4) ⟨by decide, by decide⟩
    rw [show n + 2 + k + 1 = n + 3 + k by omega] at e1
    -- the end: something odd
    obtain ⟨d0, T0, e0, hT0, hd0⟩ := odd_ok (n + k) hT1
    rw [show n + k + 3 = n + 3 + k by omega] at e0
    have hd0 := hd0.mono (show 10 ≤ 41 by decide)
    by_cases ht : ∃ ds, v = .tup ds
    · obtain ⟨ds, rfl⟩ := ht
      obtain ⟨hl, hds⟩ := hv.of_tup
      by_cases h1 : 0 < k
      · by_cases h2 : ds = []
        · subst h2
          by_cases q1 : p = 1
          · subst q1
            exact ⟨.tup [], T1, by simp [m__law_exchanged, e1, h1, cutL], hT1, hv.mono (by decide)⟩
          · by_cases q2 : p = 2
            · subst q2
              exact ⟨.tup [], T1, by simp [m__law_exchanged, e1, h1, cutL], hT1, hv.mono (by decide)⟩
            · exact ⟨d0, T0, by simp [m__law_exchanged, e1, h1, q1, q2, e0], hT0, hd0⟩
        · have hne : ds.isEmpty = false := by cases ds <;> first | rfl | exact absurd rfl h2
          have hpos : 0 < ds.length := List.length_pos_iff.mpr h2
          by_cases h3 : 0 < p
          · obtain ⟨a, T2, e2, hT2, a0, a1⟩ := draw_ok (n + 2 + k) hT1 (m := (ds.length : Int)) ⟨by omega, by omega⟩
            rw [show n + 2 + k + 1 = n + 3 + k by omega] at e2
            obtain ⟨q, rfl⟩ := Int.eq_ofNat_of_zero_le a0
            have hq : q < ds.length := by omega
            have hit : ∀ (σ : Env) (T : Sto), itemM (.tup ds) (.int (q : Int)) σ T = .ok ds[q] T := fun _ _ => itemT (List.getElem?_eq_getElem hq)
            obtain ⟨x, T3, e3, hT3, hx⟩ := rec (by omega) T2 ds[q] hT2 (hds _ (List.getElem_mem hq))
            have hc1 := cut_to ds q
            have hc2 := cut_from ds (q + 1)
            have hc2 : cutL ds (some ((q : Int) + 1)) none = ds.drop (q + 1) := hc2
            have f1 : min q ds.length + 1 ≤ 16777216 := by omega
            have f2 : min q ds.length + (1 + (ds.length - (q + 1))) ≤ 16777216 := by omega
            have f3 : min q ds.length + 1 + (ds.length - (q + 1)) ≤ 16777216 := by omega
            refine ⟨.tup (ds.take q ++ x :: ds.drop (q + 1)), T3, ?_, hT3, Bd.tup (by simp; omega) fun d hd => ?_⟩
            · simp [m__law_exchanged, e1, h1, hne, h3, e2, hit, e3, hc1, hc2, f1, f2, f3]
            · rcases List.mem_append.mp hd with z | z
              · exact (hds d (List.mem_of_mem_take z)).mono (by decide)
              · rcases List.mem_cons.mp z with rfl | z
                · exact hx
                · exact (hds d (List.mem_of_mem_drop z)).mono (by decide)
          · have h3' : p = 0 := by omega
            subst h3'
            exact ⟨d0, T0, by simp [m__law_exchanged, e1, h1, hne, e0], hT0, hd0⟩
      · by_cases q1 : p = 1
        · subst q1
          have hc1 := cut_to ds 1
          have hc1 : cutL ds none (some 1) = ds.take 1 := hc1
          have f1 : ds.length + min 1 ds.length ≤ 16777216 := by omega
          refine ⟨.tup (ds ++ ds.take 1), T1, by simp [m__law_exchanged, e1, h1, hc1, f1], hT1, Bd.tup (by simp; omega) fun d hd => ?_⟩
          rcases List.mem_append.mp hd with z | z
          · exact (hds d z).mono (by decide)
          · exact (hds d (List.mem_of_mem_take z)).mono (by decide)
        · by_cases q2 : p = 2
          · subst q2
            have hc1 := cut_from ds 1
            have hc1 : cutL ds (some 1) none = ds.drop 1 := hc1
            refine ⟨.tup (ds.drop 1), T1, by simp [m__law_exchanged, e1, h1, hc1], hT1, Bd.tup (by simp; omega) fun d hd => (hds d (List.mem_of_mem_drop hd)).mono (by decide)⟩
          · exact ⟨d0, T0, by simp [m__law_exchanged, e1, h1, q1, q2, e0], hT0, hd0⟩
    · have hf := isTup_no (d := v) fun ds e => ht ⟨ds, e⟩
      refine ⟨d0, T0, ?_, hT0, hd0⟩
      by_cases h1 : 0 < k
      · by_cases q1 : p = 1
        · subst q1
          simp [m__law_exchanged, e1, h1, hn, hf, e0]
        · by_cases q2 : p = 2
          · subst q2
            simp [m__law_exchanged, e1, h1, hn, hf, e0]
          · simp [m__law_exchanged, e1, h1, hn, hf, q1, q2, e0]
      · by_cases q1 : p = 1
        · subst q1
          simp [m__law_exchanged, e1, h1, hn, hf, e0]
        · by_cases q2 : p = 2
          · subst q2
            simp [m__law_exchanged, e1, h1, hn, hf, e0]
          · simp [m__law_exchanged, e1, h1, hn, hf, q1, q2, e0]
end K76


set_option Elab.async false
set_option linter.all false
set_option maxRecDepth 100000
set_option maxHeartbeats 4000000
namespace K76
open PySem hiding Env
open Mi
theorem mul_tup {xs : List D} {j : Nat} (h : xs ≠ []) (h1 : xs.length ≤ 1000) (h2 : 2 ≤ j) (h3 : j ≤ 1000) : binD .Mult (.tup xs) (.int (j : Int)) = some (.tup (rep j xs)) := by
  have e : (!xs.isEmpty && decide (xs.length ≤ 1000) && decide (2 ≤ (j : Int)) && decide ((j : Int) ≤ 1000)) = true := by
    cases xs with
    | nil => exact absurd rfl h
    | cons x xs =>
      simp at h1 ⊢
      omega
  dsimp only [binD]
  rw [if_pos e, Int.toNat_natCast]
theorem rep_mem {n : Nat} {xs : List D} {d : D} (h : d ∈ rep n xs) : d ∈ xs := by
  unfold rep at h
  obtain ⟨l, hl, hd⟩ := List.mem_flatten.mp h
  rw [List.eq_of_mem_replicate hl] at hd
  exact hd
theorem cut_mem {xs : List D} {a b : Option Int} {d : D} (h : d ∈ cutL xs a b) : d ∈ xs := List.mem_of_mem_drop (List.mem_of_mem_take h)
def cut9 (w : Nat) : D → D
  | .tup ds => .tup ((rep 9 ds).take w)
  | d => d
def no1 : D → D
  | .int i => .int (if i = 1 then 0 else i)
  | d => d
def no1s : D → D
  | .tup ds => .tup (ds.map no1)
  | d => d
theorem value_ok (n : Nat) {T : Sto} (hT : StO T) : ∃ d T', cl (n + 7) "_law_value" [.obj 1] T = .ok (d, false) T' ∧ StO T' ∧ Dat d := by
  rw [r_value]
  obtain ⟨rs, c, T1, e1, hT1, ok⟩ := drawn_ok (n + 2) hT
  obtain ⟨p, T2, e2, hT2, p0, p1⟩ := draw_ok (n + 5) hT1 (m := 6) ⟨by decide, by decide⟩
  have hlen := ok.l1
  have hl0 := ok.l0
  have hxl : (rs.map tupI).length = rs.length := List.length_map ..
  have hne : rs.map tupI ≠ [] := fun e => by rw [e] at hxl; simp at hxl; omega
  have hrow : ∀ d ∈ rs.map tupI, ∃ r, d = tupI r ∧ r ≠ [] ∧ r.length ≤ 8 := fun d hd => by
    obtain ⟨r, hr, rfl⟩ := List.mem_map.mp hd
    have h := ok.ok r hr
    refine ⟨r, rfl, fun e => ?_, by rw [h.1]; exact ok.c1⟩
    have := h.2.2
    rw [e] at this
    cases this
  have hbd : Bd 40 (.tup (rs.map tupI)) := Bd.tup (by rw [hxl]; exact hlen) fun d hd => by
    obtain ⟨r, rfl, _, h⟩ := hrow d hd
    exact Bd.tupI (by omega)
  generalize hM : rs.map tupI = M at *
  have hMl : M.length ≤ 40 := by omega
  by_cases q0 : p = 0
  · subst q0
    obtain ⟨v, T3, e3, hT3, v0, v1⟩ := draw_ok (n + 5) hT2 (m := 3) ⟨by decide, by decide⟩
    obtain ⟨w, rfl⟩ := Int.eq_ofNat_of_zero_le v0
    have hmul : binD .Mult (.tup M) (.int 41) = some (.tup (rep 41 M)) := mul_tup (j := 41) hne (by omega) (by decide) (by decide)
    have hc : cutL (rep 41 M) none (some (39 + (w : Int))) = (rep 41 M).take (39 + w) := by
      rw [← cut_to]
      rfl
    refine ⟨.tup ((rep 41 M).take (39 + w)), T3, by simp [m__law_value, e1, e2, hmul, e3, hc], hT3, (Bd.tup (w := 100) (Nat.le_trans (List.length_take_le ..) (by omega)) fun d hd => ?_).dat (by decide)⟩
    exact (hbd.of_tup.2 d (rep_mem (List.mem_of_mem_take hd))).mono (by decide)
  · by_cases q1 : p = 1
    · subst q1
      obtain ⟨v, T3, e3, hT3, v0, v1⟩ := draw_ok (n + 5) hT2 (m := 3) ⟨by decide, by decide⟩
      obtain ⟨w, hw⟩ := Int.eq_ofNat_of_zero_le (show 0 ≤ 7 + v by omega)
      have e := lc_mapY (tg := tgN 4) (el := V (slE (V (binE .Mult (pVar 4) (V (kE (.int 9))))) oN (oS (V (vVar 3))))) (σ := [.fz (.obj 1), .fz (.tup M), .fz (.int 1), .fz (.int (w : Int)), .no, .no]) (T := T3) (cut9 w) M (by omega) (fun d hd => by
        obtain ⟨r, rfl, h1, h2⟩ := hrow d hd
        have hmul : binD .Mult (.tup (iL r)) (.int 9) = some (.tup (rep 9 (iL r))) := mul_tup (j := 9) (fun e => h1 (by
          cases r with
          | nil => rfl
          | cons x xs => cases e)) (by rw [iL_len]; omega) (by decide) (by decide)
        have hc := cut_to (rep 9 (iL r)) w
        exact ⟨_, rfl, by simp [hmul, hc, cut9]⟩)
      have e := lcK_ok e
      refine ⟨.tup (M.map (cut9 w)), T3, by simp [m__law_value, e1, e2, e3, hw, e], hT3, (Bd.tup (w := 100) (by rw [List.length_map]; omega) fun d hd => ?_).dat (by decide)⟩
      obtain ⟨d', hd', rfl⟩ := List.mem_map.mp hd
      obtain ⟨r, rfl, h1, h2⟩ := hrow d' hd'
      refine Bd.tup (Nat.le_trans (List.length_take_le ..) (by omega)) fun d hd => ?_
      obtain ⟨i, _, rfl⟩ := List.mem_map.mp (rep_mem (List.mem_of_mem_take hd))
      exact Bd.int _ i
    · by_cases q2 : p = 2
      · subst q2
        have hc1 : cutL M none (some 1) = M.take 1 := cut_to M 1
        have hc2 : cutL M (some 1) none = M.drop 1 := cut_from M 1
        have inner : ∀ (r : List Int) (σ1 : List Sl), r.length ≤ 8 → lcK (tgN 5) yesE (V (ifE (cmpE .Eq (pVar 5) (V (kE (.int 1)))) (kE (.int 0)) (vVar 5))) [.fz (.obj 1), .fz (.tup M), .fz (.int 2), .no, .fz (.tup (iL r)), .no] (iL r) T2 = .ok (.lst ((iL r).map no1), true) T2 := fun r σ1 hr => by
          refine lcK_ok (lc_mapY no1 (iL r) (by rw [iL_len]; omega) fun d hd => ?_)
          obtain ⟨i, _, rfl⟩ := List.mem_map.mp hd
          refine ⟨_, rfl, ?_⟩
          by_cases hi : i = 1
          · subst hi
            simp [no1]
          · simp [hi, no1]
        have e := lc_mapY (tg := tgN 4) (el := V (bltE "tuple" (V (lcM (tgN 5) yesE (V (ifE (cmpE .Eq (pVar 5) (V (kE (.int 1)))) (kE (.int 0)) (vVar 5))) [5] (itX (pVar 4)))))) (σ := [.fz (.obj 1), .fz (.tup M), .fz (.int 2), .no, .no, .no]) (T := T2) no1s (M.take 1) (by simp; omega) (fun d hd => by
          obtain ⟨r, rfl, h1, h2⟩ := hrow d (List.mem_of_mem_take hd)
          have hi := inner r [] h2
          exact ⟨_, rfl, by simp [hi, no1s]⟩)
        have e := lcK_ok e
        have f1 : ((M.take 1).map no1s).length + (M.drop 1).length ≤ 16777216 := by simp; omega
        have f2 : min 1 M.length + (M.length - 1) ≤ 16777216 := by omega
        refine ⟨.tup ((M.take 1).map no1s ++ M.drop 1), T2, ?_, hT2, (Bd.tup (w := 100) (by simp; omega) fun d hd => ?_).dat (by decide)⟩
        · simp only [List.map_take] at e ⊢
          simp [m__law_value, e1, e2, hc1, hc2, e, f2]
        · rcases List.mem_append.mp hd with z | z
          · obtain ⟨d', hd', rfl⟩ := List.mem_map.mp z
            obtain ⟨r, rfl, h1, h2⟩ := hrow d' (List.mem_of_mem_take hd')
            refine Bd.tup (by rw [List.length_map, iL_len]; omega) fun d2 hd2 => ?_
            obtain ⟨d3, hd3, rfl⟩ := List.mem_map.mp hd2
            obtain ⟨i, _, rfl⟩ := List.mem_map.mp hd3
            exact Bd.int _ _
          · exact (hbd.of_tup.2 d (List.mem_of_mem_drop z)).mono (by decide)
      · by_cases q3 : p = 3
        · subst q3
          obtain ⟨d, T3, e3, hT3, hd⟩ := odd_ok (n + 3) hT2
          exact ⟨d, T3, by simp [m__law_value, e1, e2, e3], hT3, hd.dat (by decide)⟩
        · obtain ⟨v, T3, e3, hT3, v0, v1⟩ := draw_ok (n + 5) hT2 (m := 3) ⟨by decide, by decide⟩
          obtain ⟨k, rfl⟩ := Int.eq_ofNat_of_zero_le v0
          obtain ⟨d, T4, e4, hT4, hd⟩ := exch_ok k (n + 2 - k) (.tup M) hT3 hbd
          rw [show n + 2 - k + 4 + k = n + 6 by omega] at e4
          exact ⟨d, T4, by simp [m__law_value, e1, e2, q0, q1, q2, q3, e3, e4], hT4, hd.dat (by decide)⟩
/-! ### the law -/
theorem r_law (n : Nat) (a : D) (T : Sto) : cl (n + 1) "law" [a] T = finR (m_law (cl n) [.fz a, .no, .no, .no, .no, .no] T) := cl_succ (d := d_law) (by kernel_rfl) (by kernel_rfl) (c_law _)
theorem mach_true {rs : List (List Int)} {c : Nat} (ok : MachOk rs c) : machB (.tup (rs.map tupI)) = true ∧ Dat (.tup (rs.map tupI)) := by
  have hbd : Bd 40 (.tup (rs.map tupI)) := Bd.tup (by rw [List.length_map]; exact ok.l1) fun d hd => by
    obtain ⟨r, hr, rfl⟩ := List.mem_map.mp hd
    exact Bd.tupI (by rw [(ok.ok r hr).1]; have := ok.c1; omega)
  refine ⟨?_, hbd.dat (by decide)⟩
  have rule : ∀ d ∈ rs.map tupI, ruleB c d = true := fun d hd => by
    obtain ⟨r, hr, rfl⟩ := List.mem_map.mp hd
    obtain ⟨h1, h2, h3⟩ := ok.ok r hr
    show (decide ((iL r).length = c) && ((iL r).all oneB && has1 (iL r))) = true
    rw [iL_len, decide_eq_true h1, Bool.true_and, Bool.and_eq_true]
    refine ⟨List.all_eq_true.mpr fun d hd => ?_, List.any_eq_true.mpr ⟨.int 1, List.mem_map.mpr ⟨1, h3, rfl⟩, ?_⟩⟩
    · obtain ⟨i, hi, rfl⟩ := List.mem_map.mp hd
      have := h2 i hi
      simp [oneB, this]
    · rfl
  cases rs with
  | nil => have := ok.l0; simp at this
  | cons r rs =>
    have hr := (ok.ok r List.mem_cons_self).1
    have h8 := ok.c1
    have h1 := ok.c0
    have h40 := ok.l1
    simp only [List.length_cons] at h40
    show (decide ((rs.map tupI).length < 40) && (decide (1 ≤ (iL r).length) && decide ((iL r).length ≤ 8) && (D.tup (iL r) :: rs.map tupI).all (ruleB (iL r).length))) = true
    rw [iL_len, List.length_map, hr, decide_eq_true (show rs.length < 40 by omega), decide_eq_true h1, decide_eq_true h8]
    simp only [Bool.true_and]
    exact List.all_eq_true.mpr rule
theorem ne_bl (a : Bool) : cmpD .NotEq (.bl a) (.bl a) = some false := by cases a <;> rfl
theorem law_ok (n : Nat) (sc : List Int) : ∃ T', cl (n + 8) "law" [.obj 0] [.frz (iL sc)] = .ok (.bl true, false) T' := by
  rw [r_law]
  obtain ⟨x, e, x0, x1⟩ := stream_ok (n + 6) sc
  have hT : StO (St (.frz (iL sc)) (iL sc) 0 0 x) := StO.mk' (fun c hc => by
    obtain ⟨i, _, rfl⟩ := List.mem_map.mp hc
    exact ⟨i, rfl⟩) (by decide) x0 x1
  have h3 : r1M (.int 3) = (fun σ T => .ok (rangeD 0 3) T : EM (List D)) := by
    funext σ T
    exact ev_r1M 3 (by decide)
  simp [m_law, e, h3]
  refine for_then (P := fun r => ∃ T', finR r = .ok (.bl true, false) T')
    (fun ds σ T => StO T ∧ ∃ s2 s3 s4 s5, σ = [.fz (.obj 0), .fz (.obj 1), s2, s3, s4, s5]) ?_ ⟨hT, _, _, _, _, rfl⟩ ?_
  · rintro d ds σ T ⟨hT, s2, s3, s4, s5, rfl⟩
    obtain ⟨rs, c, T1, e1, hT1, ok⟩ := drawn_ok (n + 3) hT
    obtain ⟨hm, hdat⟩ := mach_true ok
    have e2 := is_machine_ok (n + 5) (.tup (rs.map tupI)) T1 hdat
    rw [hm] at e2
    have e3 := told_ok ok (n + 4) T1
    obtain ⟨v, T2, e4, hT2, hv⟩ := value_ok n hT1
    have e5 := is_machine_ok (n + 5) v T2 hv
    have e6 := law_is_machine_ok (n + 5) v T2 hv
    have e7 := ne_bl (machB v)
    refine ⟨_, _, _, rfl, by simp [e1, e2, e3, e4, e5, e6, e7]; exact ⟨rfl, rfl, rfl, rfl⟩, hT2, _, _, _, _, rfl⟩
  · rintro σ T ⟨hT, s2, s3, s4, s5, rfl⟩
    exact ⟨T, by simp⟩
end K76


set_option Elab.async false
set_option linter.all false
set_option maxRecDepth 100000
set_option maxHeartbeats 4000000
namespace K76
open PySem hiding Env
open PySem.Spec L2 L2H Mi
/-! ### _law_same, called while Stuck is handled -/
theorem eq_ints : ∀ is js : List Int, PyData.eqvAll (D.pys (is.map .int)) (D.pys (js.map .int)) = decide (is = js)
  | [], [] => by simp [D.pys, PyData.eqvAll]
  | [], j :: js => by simp [D.pys, PyData.eqvAll]
  | i :: is, [] => by simp [D.pys, PyData.eqvAll]
  | i :: is, j :: js => by
    have h : ∀ (a : Int) (l : List Int), D.pys ((a :: l).map .int) = .int a :: D.pys (l.map .int) := fun _ _ => rfl
    rw [h, h, PyData.eqvAll, eq_ints is js, PyData.eqv, Bool.eq_iff_iff]
    simp
theorem plain_ints : ∀ is : List Int, D.plains (is.map .int) = true
  | [] => rfl
  | i :: is => plain_ints is
theorem deep_ints : ∀ is : List Int, D.deeps (is.map .int) = 0
  | [] => rfl
  | i :: is => by
    show max 0 (D.deeps (is.map .int)) = 0
    rw [deep_ints is]
    rfl
theorem cmp_ints (is js : List Int) : cmpD .Eq (.tup (is.map .int)) (.tup (js.map .int)) = some (decide (is = js)) := by
  have e : cmpD .Eq (.tup (is.map .int)) (.tup (js.map .int)) = if D.plains (is.map .int) && D.plains (js.map .int) && decide (min (D.deeps (is.map .int) + 1) (D.deeps (js.map .int) + 1) ≤ 190) then some (PyData.eqv (.tuple (D.pys (is.map .int))) (.tuple (D.pys (js.map .int)))) else none := rfl
  rw [e, plain_ints, plain_ints, deep_ints, deep_ints, PyData.eqv, eq_ints]
  rfl
/-- isinstance(x, t) of a name -/
theorem isi_pe {X : Cx} {x t : Str} {ty : String} {i : Nat} {p1 p2 p3 p4 : Pos} (hN : X.N[i]? = some x) (hv : Vis X.env.scope x) (g1 : Gl X "isinstance") (g2 : Gl X t) (m1 : X.mg "isinstance" = none) (m2 : X.mg t = none) (ht : bootBuiltins t = some (.type ty)) (d1 : (x == ("__debug__" : Str)) = false) (d2 : (x == ("__classdict__" : Str)) = false) (d3 : t ≠ "__name__") (d4 : (t == ("__debug__" : Str)) = false) :
    PE X (.Call (.Name "isinstance" p1) [.Name x p2, .Name t p3] [] p4) (fun σ H Q => ∃ v ts b, σ[i]? = some (some v) ∧ TyX X.K H v (.type ts) ∧ kitB ts ty = some b ∧ Q (.bl b) H) :=
  (pe_callB call_isi g1 m1 (by decide +kernel) (pa_cons (pe_var hN hv d1 d2) (pa_cons (pe_bltn (v := .ty ty) g2 m2 ht rfl d3 d4) pa_nil))).imp fun σ H Q ⟨v, ts, b, e, ty', k, q⟩ => ⟨v, e, v, .ty ty, .type ts, .type ty, b, rfl, .ty _, ty', kit_ty k, q⟩
theorem elt_pe {X : Cx} {p1 p2 p3 p4 p5 p6 p7 p8 p9 p10 : Pos} (hN : X.N[2]? = some ("one" : Str)) (hv : Vis X.env.scope "one") (g1 : Gl X "isinstance") (g2 : Gl X "int") (g3 : Gl X "bool") (blt : ∀ x ∈ bltNames, X.mg x = none) :
    PE X (.BoolOp .And [.Call (.Name "isinstance" p1) [.Name "one" p2, .Name "int" p3] [] p4, .UnaryOp .Not (.Call (.Name "isinstance" p5) [.Name "one" p6, .Name "bool" p7] [] p8) p9] p10) (fun σ H Q => ∃ j : Int, σ[2]? = some (some (.int j)) ∧ Q (.bl true) H) :=
  (pe_and (isi_pe (ty := "int") hN hv g1 g2 (blt _ (by decide +kernel)) (blt _ (by decide +kernel)) (by decide +kernel) (by decide) (by decide) (by decide) (by decide))
    (pe_one (pe_not (isi_pe (ty := "bool") hN hv g1 g3 (blt _ (by decide +kernel)) (blt _ (by decide +kernel)) (by decide +kernel) (by decide) (by decide) (by decide) (by decide))))).imp fun σ H Q ⟨j, e, q⟩ =>
    ⟨_, _, true, e, .base (.int _), by kernel_rfl, true, rfl, _, _, false, e, .base (.int _), by kernel_rfl, false, rfl, q⟩
/-- told and due, tuples of ints: whether they are the same -/
def spSame (K : PySem.W.Frag) : Sp := fun vs H Q _ => ∃ (ρ : List Addr) (G : Hp) (T : Sto) (a b : V) (is js : List Int), vs = [a, b] ∧ Wd K ρ G H T ∧ Rp K ρ G a (.tup (is.map .int)) ∧ Rp K ρ G b (.tup (js.map .int)) ∧ is.length ≤ 1000 ∧
  ∀ H', (∀ x u, H x = some u → H' x = some u) → Wd K ρ G H' T → Q (.bl (decide (is = js))) H'
theorem scSame : FnScope ["told", "due", "one"] ["told", "due"] d__law_same.sc := ⟨rfl, rfl, rfl, by decide +kernel, rfl, by decide +kernel, by decide +kernel⟩
theorem if_no {A B : Prop} (h : B) : if (!true) = true then A else B := h
theorem same_hot {P : Program} {w : World} {K : PySem.W.Frag} {mg : Str → Option Value} {base : Heap} {k : Nat} {f : Addr} {fd : FuncData} {qual : Str} {params : Arguments} (F : FunD K "_law_same" qual params d__law_same.body d__law_same.sc [] [] f fd) (blt : ∀ x ∈ bltNames, mg x = none) :
    FnH P w K mg base (L2N.CX P w) (k + 1) f fd ["told", "due"] (spSame K) := by
  obtain ⟨oc, od, dV, kV, doc, pm, an, cdv, ct, osl, rfl, lk, hcd, _, _⟩ := F.ex
  refine fn_ofH lk hcd scSame (fun vs H Q E h => ?_) (fun A outer s H vs Q E p hot hr hsp => ?_)
  · obtain ⟨ρ, G, T, a, b, is, js, rfl, _⟩ := h
    rfl
  · have hun : (cxH (L2N.CX P w) P w K mg base ["told", "due", "one"] qual d__law_same.sc f cdv A outer s H E p).A.units + 200 < cLine := by
      have := hr.un
      show (A.deeper (PyProof.Rows.envOfC qual d__law_same.sc s.heap.objs.size f cdv)).units + 200 < cLine
      omega
    have hc : HotC (cxH (L2N.CX P w) P w K mg base ["told", "due", "one"] qual d__law_same.sc f cdv A outer s H E p) := ⟨p, hot, List.mem_singleton.mpr rfl⟩
    refine ⟨_, pss_cons (ps_if (PW.pt (pw_or (pt_not (pt_val (isi_pe (i := 0) (ty := "tuple") rfl (Or.inl rfl) rfl rfl (blt _ (by decide +kernel)) (blt _ (by decide +kernel)) (by decide +kernel) (by decide) (by decide) (by decide) (by decide))))
        (pw_or1 (pt_not (pt_val (pe_callB (cr_allHot hc) rfl (blt _ (by decide +kernel)) (by decide +kernel) (pa_cons (pe_lcHot (own := [("one", 2)]) (p := p) hot (List.mem_singleton.mpr rfl) scSame.nd (pi_tupHot (pv 0)) (blkOk_by (by kernel_rfl))
          (fun s H C cl fps => pg_name (i := 2) scSame.nd rfl (Or.inl rfl)) (fun s H C cl fps => pts_nil)
          (fun s H C cl fps => elt_pe rfl (Or.inl rfl) rfl rfl rfl blt)) pa_nil)))))))
        (pss_one (ps_ret pe_bl)) pss_nil)
      (pss_one (ps_ret (pe_cmpR (opCmp hun .Eq) (pv 0) (pv 1) (nomark _)))), ?_⟩
    obtain ⟨ρ, G, T, a, b, is, js, rfl, w, ra, rb, hl, q⟩ := hsp
    cases ra with
    | @tup ad vs _ hq rs =>
    have hvs : vs = is.map V.int := Rps.of_ints rs (by
      have : ∀ l : List Int, intsOf (l.map .int) = some l := fun l => by
        induction l with
        | nil => rfl
        | cons x l ih =>
          show (intsOf (l.map .int)).map _ = _
          rw [ih]
          rfl
      exact this is)
    subst hvs
    have hq' := SqT.sub w.sub hq
    refine ⟨_, "tuple", true, rfl, ?_, by kernel_rfl, true, rfl, ?_⟩
    · rcases hq' with (h2 | ⟨o, h2⟩) | ⟨o, its, n', hk, hcl, _⟩
      · exact .base (.tup h2)
      · exact .fTuple h2
      · exact .kTuple hk hcl
    · have nr := fun {Dl : Addr} (hD : H Dl = none) => w.rfree hD
      refine if_no ⟨_, rfl, ad, rfl, ⟨_, hq'⟩, fun Dl hD => ?_⟩
      refine lc_tup (K := K) (a := ad) (xs := is.map V.int) (g := gName 2) (tt := tYes) (te := fun σ H Q => ∃ j : Int, σ[2]? = some (some (.int j)) ∧ Q (.bl true) H) (vs := [2]) (σ := L2.start ["told", "due", "one"] [.ref ad, b]) (fun i H' => H' Dl = some (.lst ((List.replicate i true).map V.bl)) ∧ (∀ x u, H x = some u → H' x = some u) ∧ Wd K ρ G H' T)
        ⟨upd_same, fun x u e => by rw [upd_ne (ne_of_none e hD)]; exact e, w.new hD _⟩ (fun i H' _ h => SqT.sub (fun x u e => h.2.1 x u (w.sub x u e)) hq) (fun i x H' hx h => ?_) (fun H' h => ?_)
      · obtain ⟨j, hj, rfl⟩ : ∃ j, is[i]? = some j ∧ x = V.int j := by
          rw [List.getElem?_map] at hx
          cases e : is[i]? with
          | none => rw [e] at hx; cases hx
          | some j =>
            rw [e] at hx
            exact ⟨j, rfl, (Option.some.inj hx).symm⟩
        have hi : i < is.length := (List.getElem?_eq_some_iff.mp hj).1
        obtain ⟨h1, h2, h3⟩ := h
        refine ⟨rfl, j, rfl, _, h1, ?_, ?_, fun y u e => ?_, h3.own (w.rfree hD) (w.gfree hD) _⟩
        · rw [List.length_map, List.length_replicate, sizeLine_eq]
          omega
        · rw [upd_same, List.replicate_succ', List.map_append]
          rfl
        · rw [upd_ne (ne_of_none e hD)]
          exact h2 y u e
      · obtain ⟨h1, h2, h3⟩ := h
        refine ⟨Dl, _, rfl, SqL.of h1, true, ?_, ?_⟩
        · congr 1
          simp
        · refine if_no ?_
          exact ⟨_, rfl, _, rfl, ρ, G, T, _, _, _, h3, .inl (.tup hq rs), .inl rb, cmp_ints is js, q H' h2 h3⟩
end K76


set_option Elab.async false
set_option linter.all false
set_option maxRecDepth 100000
set_option maxHeartbeats 4000000
namespace K76
open PySem hiding Env
open PySem.Spec L2 L2H Mi
/-! ### isinstance of a handled exception that has a dict of its own -/
def rIsO (K : PySem.W.Frag) (C a dx : Addr) : List V → Hp → VK → Prop := fun xs H Q => ∃ (c : V) (cv : Value) (b : Bool) (fs : List (Str × V)), xs = [.ref a, c] ∧ (∀ u, RelV c u → u = cv) ∧ H dx = some (.xd fs) ∧ PySem.W.kitOne K (.ref C) cv = some b ∧ Q (.bl b) H
theorem call_isO {X : Cx} {a C dx : Addr} {oe : Obj} {pn : List (Addr × Obj)} (T : ExcC X.K C) (hz : Zc (.ref C) (some dx) oe) (hf : ∃ vs, oe.data = .fields vs) : CallR (X.suite a ((a, oe) :: pn)) (.builtin "isinstance") (rIsO X.K C a dx) := by
  intro pins s σ H xs us Q I r h
  obtain ⟨c, cv, b, fs, rfl, hcv, hdx, e, q⟩ := h
  cases r with
  | cons rx rr =>
    cases rr with
    | cons rt rr =>
      cases rr
      cases rx
      have ec := hcv _ rt
      subst ec
      obtain ⟨hget, _⟩ := I.pin (a, oe) (List.mem_append.mpr (.inl List.mem_cons_self))
      obtain ⟨vs, hv⟩ := hf
      obtain ⟨mA, hns, hr⟩ : ObjOk X.prog X.w H s.heap dx (.xd fs) := I.hok dx _ hdx
      obtain ⟨od, ho, hl⟩ := lookIn_ns hns
      have J : PySem.W.InstAt s.heap a oe C (some od) := ⟨hget, hz.1, by unfold PySem.W.notCls; rw [hv] <;> rfl, by rw [hz.2]; exact ho⟩
      have hcl : (PySem.W.clsIn X.K C).isSome = true := by
        obtain ⟨cd, hc, _⟩ := PySem.W.any_some T.hd
        rw [hc]
        rfl
      exact PySem.W.kia_one (PySem.W.kitx_exc hcl T.hg T.hk T.hs T.ha T.hn T.ht T.hm) I.kIn J e (fun z => nomatch z) fun tk => ⟨.bl b, H, I.kept (t' := tk) fun _ _ z => z, rfl, q⟩
/-- what the module's classes say -/
structure ExF (K : PySem.W.Frag) (mg : Str → Option Value) : Prop where
  gS : mg "Stuck" = some (.ref (He.ga K "Stuck"))
  gB : mg "BadProof" = some (.ref (He.ga K "BadProof"))
  gN : mg "NotAllowed" = some (.ref (He.ga K "NotAllowed"))
  gG : mg "GradatimError" = some (.ref (He.ga K "GradatimError"))
  gV : mg "ValueError" = none
  ex : ExcC K (He.ga K "Stuck")
  no : PySem.W.findIn K (.ref (He.ga K "Stuck")) "rules" = some none
  kB : PySem.W.kitOne K (.ref (He.ga K "Stuck")) (.ref (He.ga K "BadProof")) = some false
  kN : PySem.W.kitOne K (.ref (He.ga K "Stuck")) (.ref (He.ga K "NotAllowed")) = some false
  kS : PySem.W.kitOne K (.ref (He.ga K "Stuck")) (.ref (He.ga K "Stuck")) = some true
  kV : PySem.W.kitOne K (.ref (He.ga K "Stuck")) (.type "ValueError") = some true
  em : PySem.W.exmOne K (.ref (He.ga K "Stuck")) (.ref (He.ga K "GradatimError")) = some true
theorem ExF.xf {K : PySem.W.Frag} {mg : Str → Option Value} (x : ExF K mg) : XfC K (He.ga K "Stuck") := ⟨x.ex.hg, x.ex.hk, x.ex.hs, x.ex.hd⟩
/-- what the suite is to reach: e at a with its dict dx in slot 2, due in slot 1 -/
def tSuite (K : PySem.W.Frag) : Addr → Value → Option Addr → TS := fun a cls d Z σ H => ∃ (dx : Addr) (ρ : List Addr) (G : Hp) (T : Sto) (aD : Addr) (vO vL vR : V) (dO : D) (is js : List Int), cls = .ref (He.ga K "Stuck") ∧ d = some dx ∧
  σ[2]? = some (some (.ref a)) ∧ σ[1]? = some (some (.ref aD)) ∧ Wd K ρ G H T ∧ H aD = some (.lst [vO, vL]) ∧ aD ∉ ρ ∧ Rp K ρ G vO dO ∧ Rp K ρ G vL (.tup (js.map .int)) ∧ H dx = some (.xd [(("rules" : Str), vR)]) ∧ Rp K ρ G vR (.tup (is.map .int)) ∧ is.length ≤ 1000 ∧
  ∀ ρ' G' H', Tr ρ G H ρ' G' H' → Wd K ρ' G' H' T → Z.rt (.bl (!js.isEmpty && decide (is = js))) H'
section
variable {X : Cx} {a C dx : Addr} {oe : Obj} {pn : List (Addr × Obj)}
theorem is_cls {c : Str} {Cc : Addr} {b : Bool} {p1 p2 p3 p4 : Pos} (T : ExcC X.K C) (hz : Zc (.ref C) (some dx) oe) (hf : ∃ vs, oe.data = .fields vs) (hN : X.N[2]? = some ("e" : Str)) (hv : Vis X.env.scope "e") (g1 : Gl X "isinstance") (m1 : X.mg "isinstance" = none) (g2 : Gl X c) (m2 : X.mg c = some (.ref Cc)) (d2 : (c == ("__debug__" : Str)) = false) (k : PySem.W.kitOne X.K (.ref C) (.ref Cc) = some b) :
    PE (X.suite a ((a, oe) :: pn)) (.Call (.Name "isinstance" p1) [.Name "e" p2, .Name c p3] [] p4) (fun σ H Q => σ[2]? = some (some (.ref a)) ∧ (∃ fs, H dx = some (.xd fs)) ∧ Q (.bl b) H) :=
  (pe_callB (X := X.suite a ((a, oe) :: pn)) (call_isO T hz hf) g1 m1 (by decide +kernel) (pa_cons (pe_var (i := 2) hN hv) (pa_cons (pe_glob (v := .ref Cc) g2 m2 rfl d2) pa_nil))).imp fun σ H Q ⟨e, ⟨fs, h⟩, q⟩ => ⟨_, e, _, .ref Cc, b, fs, rfl, fun u h => h, h, k, q⟩
theorem is_ve {b : Bool} {p1 p2 p3 p4 : Pos} (T : ExcC X.K C) (hz : Zc (.ref C) (some dx) oe) (hf : ∃ vs, oe.data = .fields vs) (hN : X.N[2]? = some ("e" : Str)) (hv : Vis X.env.scope "e") (g1 : Gl X "isinstance") (m1 : X.mg "isinstance" = none) (g2 : Gl X "ValueError") (m2 : X.mg "ValueError" = none) (k : PySem.W.kitOne X.K (.ref C) (.type "ValueError") = some b) :
    PE (X.suite a ((a, oe) :: pn)) (.Call (.Name "isinstance" p1) [.Name "e" p2, .Name "ValueError" p3] [] p4) (fun σ H Q => σ[2]? = some (some (.ref a)) ∧ (∃ fs, H dx = some (.xd fs)) ∧ Q (.bl b) H) :=
  (pe_callB (X := X.suite a ((a, oe) :: pn)) (call_isO T hz hf) g1 m1 (by decide +kernel) (pa_cons (pe_var (i := 2) hN hv) (pa_cons (pe_bltn (v := .ty "ValueError") g2 m2 (by decide +kernel) rfl) pa_nil))).imp fun σ H Q ⟨e, ⟨fs, h⟩, q⟩ => ⟨_, e, _, .type "ValueError", b, fs, rfl, fun u h => h, h, k, q⟩
end
abbrev Xt (P : Program) (w : World) (K : PySem.W.Frag) (mg : Str → Option Value) (base : Heap) (qual : Str) (f : Addr) (cdv : Value) (A : Around) (outer : List PySem.Env) (s : Shared) (H : Hp) (E : XK) : Cx := cxOf (L2N.CX P w) P w K mg base d__law_is_told.N qual d__law_is_told.sc f cdv A outer s H E
theorem scTold : d__law_is_told.N.Nodup := by decide +kernel
theorem suite_ok {P : Program} {w : World} {K : PySem.W.Frag} {mg : Str → Option Value} {base : Heap} {qual : Str} {f fs : Addr} {fds : FuncData} {cdv : Value} {A : Around} {outer : List PySem.Env} {s : Shared} {H : Hp} {E : XK} {k : Nat} {p1 p2 p3 p4 p5 p6 p7 p8 p9 p10 p11 p12 p13 p14 p15 p16 p17 p18 p19 p20 p21 p22 q1 q2 q3 q4 q5 q6 q7 q8 q9 q10 q11 q12 q13 : Pos} {k1 k2 k3 k4 : Nat}
    (hr : Room k (Xt P w K mg base qual f cdv A outer s H E).A) (x : ExF K mg) (blt : ∀ x ∈ bltNames, mg x = none) (gs : mg "_law_same" = some (.ref fs)) (kp : PySem.W.keepIn K (.ref fs) = true) (hb : Binds K fds ["told", "due"] []) (F : FnH P w K mg base (L2N.CX P w) k fs fds ["told", "due"] (spSame K))
    (a : Addr) (oe : Obj) (cls : Value) (d : Option Addr) (pn : List (Addr × Obj)) (hz : L2N.Zn cls d oe) (hf : ∃ vs, oe.data = .fields vs) :
    PSs ((Xt P w K mg base qual f cdv A outer s H E).suite a ((a, oe) :: pn)) [.If (.BoolOp .Or [.Call (.Name "isinstance" p1) [.Name "e" p2, .Name "BadProof" p3] [] p4, .Call (.Name "isinstance" p5) [.Name "e" p6, .Name "NotAllowed" p7] [] p8, .UnaryOp .Not (.Call (.Name "isinstance" p9) [.Name "e" p10, .Name "Stuck" p11] [] p12) p13,
        .Compare (.Subscript (.Name "due" p14) (.Constant (.int 1) k1 p15) p16) [.Eq] [.Tuple [] k2 p17] p18] p19) [.Return (some (.Constant (.bool false) k3 p20)) p21] [] p22,
      .Return (some (.BoolOp .And [.Call (.Name "isinstance" q1) [.Name "e" q2, .Name "ValueError" q3] [] q4, .Call (.Name "_law_same" q5) [.Attribute (.Name "e" q6) "rules" q7, .Subscript (.Name "due" q8) (.Constant (.int 1) k4 q9) q10] [] q11] q12)) q13] (tSuite K a cls d) := by
  refine ⟨fun pins s1 σ H1 D I h => ?_⟩
  obtain ⟨dx, ρ, G, T, aD, vO, vL, vR, dO, is, js, rfl, rfl, e2, e1, w1, hD, nD, rO, rL, hx, rR, hl, q⟩ := h
  obtain ⟨vs, hv⟩ := hf
  have hc : HotC ((Xt P w K mg base qual f cdv A outer s H E).suite a ((a, oe) :: pn)) := ⟨(a, oe), ⟨rfl, vs, hv, hz.2.2 vs hv⟩, List.mem_cons_self⟩
  have zc : Zc (.ref (He.ga K "Stuck")) (some dx) oe := hz.zc
  have hf : ∃ vs, oe.data = .fields vs := ⟨vs, hv⟩
  have hun : ((Xt P w K mg base qual f cdv A outer s H E).suite a ((a, oe) :: pn)).A.units + 200 < cLine := by
    have := hr.un
    show (Xt P w K mg base qual f cdv A outer s H E).A.units + 200 < cLine
    omega
  have m1 := blt "isinstance" (by decide +kernel)
  refine L2.PSs.run (X := (Xt P w K mg base qual f cdv A outer s H E).suite a ((a, oe) :: pn)) (pss_cons
    (ps_if (PW.pt (pw_or (pt_val (is_cls (c := "BadProof") (p1 := p1) (p2 := p2) (p3 := p3) (p4 := p4) x.ex zc hf rfl (Or.inl rfl) rfl m1 rfl x.gB (by decide) x.kB))
      (pw_or (pt_val (is_cls (c := "NotAllowed") (p1 := p5) (p2 := p6) (p3 := p7) (p4 := p8) x.ex zc hf rfl (Or.inl rfl) rfl m1 rfl x.gN (by decide) x.kN))
      (pw_or (pt_not (pt_val (is_cls (c := "Stuck") (p1 := p9) (p2 := p10) (p3 := p11) (p4 := p12) x.ex zc hf rfl (Or.inl rfl) rfl m1 rfl x.gS (by decide) x.kS)))
      (pw_or1 (pt_cmpR (opCmp hun .Eq) (pe_ix ixM (pv 1) pe_int (fun _ _ => rfl)) (pe_tup pa_nil) (nomark _)))))))
      (pss_one (ps_ret pe_bl)) pss_nil)
    (pss_one (ps_ret (pe_and (is_ve (p1 := q1) (p2 := q2) (p3 := q3) (p4 := q4) x.ex zc hf rfl (Or.inl rfl) rfl m1 rfl x.gV x.kV) (pe_one
      (pe_callH (x := "_law_same") (E := fun _ _ _ _ => False) F ⟨hr.dp, hr.un⟩ hc rfl gs kp hb (fun σ pins H s e s' I ⟨_, _, _, _, _, _, _, _, _, _, _, _, z⟩ => z.elim) (pa_cons (pe_xf x.xf x.no zc hf (pv 2)) (pa_cons (pe_ix ixM (pv 1) pe_int (fun _ _ => rfl)) pa_nil)))))))) pins s1 σ H1 D I ?_
  have fx : ∃ fs, H1 dx = some (.xd fs) := ⟨_, hx⟩
  refine ⟨e2, fx, false, rfl, e2, fx, false, rfl, e2, fx, true, rfl, ?_⟩
  refine if_no ?_
  refine ⟨_, e1, ρ, G, T, .lst [dO, .tup (js.map .int)], .int 1, .tup (js.map .int), w1, .inr ⟨aD, [vO, vL], _, rfl, rfl, hD, .cons rO (.cons rL .nil), nD⟩, .inl (.int 1), rfl, fun v rv => ⟨by decide, fun pT hpT => ?_⟩⟩
  have w2 : Wd K ρ (upd G pT (.tup [])) (upd H1 pT (.tup [])) T := (w1.new hpT _).frz upd_same (w1.rfree hpT) (w1.gfree hpT)
  have t2 : Tr ρ G H1 ρ (upd G pT (.tup [])) (upd H1 pT (.tup [])) := (Tr.refl.new w1 hpT _).frz _ (w1.gfree hpT) hpT
  have kp2 : ∀ y u, H1 y = some u → (upd H1 pT (.tup [])) y = some u := fun y u e => by rw [upd_ne (ne_of_none e hpT)]; exact e
  have ec : cmpD .Eq (.tup (js.map .int)) (.tup []) = some (decide (js = [])) := cmp_ints js []
  refine ⟨ρ, upd G pT (.tup []), T, .tup (js.map .int), .tup [], decide (js = []), w2, .inl (rv.tr t2), .inl (.tup (.inl (.inl upd_same)) .nil), ec, decide (js = []), rfl, ?_⟩
  by_cases hj : js = []
  · subst hj
    exact q ρ _ _ t2 w2
  · have hd : decide (js = []) = false := decide_eq_false hj
    rw [hd]
    have fx2 : ∃ fs, (upd H1 pT (.tup [])) dx = some (.xd fs) := ⟨_, kp2 _ _ hx⟩
    refine ⟨e2, fx2, true, rfl, ?_⟩
    refine ⟨_, e2, rfl, rfl, dx, _, vR, rfl, kp2 _ _ hx, rfl, ?_⟩
    refine ⟨_, e1, ρ, upd G pT (.tup []), T, .lst [dO, .tup (js.map .int)], .int 1, .tup (js.map .int), w2, .inr ⟨aD, [vO, vL], _, rfl, rfl, kp2 _ _ hD, .cons (rO.tr t2) (.cons (rL.tr t2) .nil), nD⟩, .inl (.int 1), rfl, fun v2 rv2 => ?_⟩
    refine ⟨ρ, upd G pT (.tup []), T, vR, v2, is, js, rfl, w2, rR.tr t2, rv2, hl, fun H3 sub w3 => ?_⟩
    have t3 : Tr ρ G H1 ρ (upd G pT (.tup [])) H3 := ⟨t2.pre, t2.rnew, t2.gsub, t2.gnew, fun y u e h => sub _ _ (t2.keep y u e h)⟩
    have q3 := q ρ _ H3 t3 w3
    have hne : js.isEmpty = false := by cases js <;> first | rfl | exact absurd rfl hj
    rw [hne] at q3
    exact q3
section
variable {P : Program} {w : World} {K : PySem.W.Frag} {mg : Str → Option Value} {base : Heap} {qual : Str} {f fs : Addr} {fds : FuncData} {cdv : Value} {A : Around} {outer : List PySem.Env} {s : Shared} {H : Hp} {E : XK} {k : Nat}
theorem ints_eq : ∀ {ds : List Mi.D} {js : List Int}, intsOf ds = some js → ds = js.map .int
  | [], js, h => by cases h; rfl
  | d :: ds, js, h => by
    cases d <;> first | (cases h; done) | skip
    rename_i i
    have h : (intsOf ds).map (i :: ·) = some js := h
    cases e : intsOf ds with
    | none => rw [e] at h; cases h
    | some ms =>
      rw [e] at h
      cases h
      rw [ints_eq e]
      rfl
theorem list1 {α : Type} {σ : List α} {i : Nat} {x : α} {y : Option α} (h : σ[i]? = some x) (e : σ[i]? = y) : y = some x := by rw [← e, h]
theorem ext_told {C : CallT} {R : Dn} (S : Snd G C R) (g : Gx (Xt P w K mg base qual f cdv A outer s H E) G C) (hr : Room k (Xt P w K mg base qual f cdv A outer s H E).A) (x : ExF K mg) (blt : ∀ x ∈ bltNames, mg x = none) (gs : mg "_law_same" = some (.ref fs)) (kp : PySem.W.keepIn K (.ref fs) = true) (hb : Binds K fds ["told", "due"] [])
    (F : FnH P w K mg base (L2N.CX P w) k fs fds ["told", "due"] (spSame K)) : PS (Xt P w K mg base qual f cdv A outer s H E) tryS (SR K (fun cls d _ H' => E cls d H') (tryM R)) := by
  have fit : Fit (Xt P w K mg base qual f cdv A outer s H E) F_told := ⟨rfl, rfl, rfl, rfl, scTold⟩
  have tk : L2N.Takes (Xt P w K mg base qual f cdv A outer s H E) (fun cls d _ H' => E cls d H') := L2N.takes_of (X := Xt P w K mg base qual f cdv A outer s H E) rfl rfl rfl rfl
  have body : ∀ (W : WX) (pn : List (Addr × Obj)) (xe : Value → Shared → Prop), L2N.Takes ((Xt P w K mg base qual f cdv A outer s H E).tr pn xe) W → PSs ((Xt P w K mg base qual f cdv A outer s H E).tr pn xe) (tryBody tryS) (SR K W (bodyM R)) := fun W pn xe tkW => by
    have fit' : Fit ((Xt P w K mg base qual f cdv A outer s H E).tr pn xe) F_told := ⟨rfl, rfl, rfl, rfl, scTold⟩
    have g' : Gx ((Xt P w K mg base qual f cdv A outer s H E).tr pn xe) G C := ⟨g.fn, g.blt, g.cst, g.un⟩
    exact pss_one (sm_set S g' fit' tkW "told" _ callX _ 3 (by kernel_rfl) (sw_notLc (by kernel_rfl) _ _ _))
  have h : PS (Xt P w K mg base qual f cdv A outer s H E) tryS (fun D σ H' => SR K (wAs K (.ref (He.ga K "GradatimError")) 2 (tSuite K) (fun cls d _ H' => E cls d H') D) (bodyM R) D σ H') := L2N.ps_try_as (X := Xt P w K mg base qual f cdv A outer s H E) (i := 2) (x := "GradatimError") (n := "e") (tb := fun W => SR K W (bodyM R)) (ts := tSuite K) (Wout := fun cls d _ H' => E cls d H') (c := .ref (He.ga K "GradatimError")) rfl rfl scTold rfl rfl ⟨rfl, by decide, Or.inl x.gG⟩ tk
    (fun W pn xe tkW _ => body W pn xe tkW) (fun a oe cls d pn hz hf => suite_ok hr x blt gs kp hb F a oe cls d pn hz hf)
  refine h.imp fun D σv H1 ⟨ρ0, G0, H0, ρ, G1, T, σ, t0, w0, es, p⟩ => ⟨ρ0, G0, H0, ρ, G1, T, σ, t0, w0, es, ?_⟩
  have p : PostS K (fun cls d _ H' => E cls d H') ρ0 G0 H0 D ρ G1 H1 (catchM (bodyM R σ T)) := p
  cases e : bodyM R σ T with
  | nx σ1 T1 => rw [e] at p; exact p
  | rt d b T1 => rw [e] at p; exact p
  | bk σ1 T1 => rw [e] at p; exact p
  | ct σ1 T1 => rw [e] at p; exact p
  | bad => rw [e] at p; exact p
  | ex y σ1 T1 =>
    rw [e] at p
    have p : PostS K (fun cls d _ H' => E cls d H') ρ0 G0 H0 D ρ G1 H1 (if 2 < σ1.length then suiteG σ1[1]? y T1 else .bad) := p
    by_cases hlen : 2 < σ1.length
    case neg =>
      rw [if_neg hlen] at p
      exact p.elim
    rw [if_pos hlen] at p
    intro cls d ρ' G' H' σv' t t2 w' es' xr
    generalize ho : σ1[1]? = o at p
    unfold suiteG at p
    split at p
    · rename_i dO ls c fl rs T2
      split at p
      · rename_i hif
        obtain ⟨rfl, rfl, hl⟩ := hif
        split at p
        · rename_i is js his hjs
          obtain ⟨hcl, dx, vfs, hd, hH, hfl⟩ := xr
          cases hfl with
          | cons h1 h2 =>
            cases h2
            rename_i pv
            obtain ⟨pn, pvv⟩ := pv
            obtain ⟨hn, rv⟩ := h1
            have hn : pn = "rules" := hn
            subst hn
            have e1 := hcl
            subst e1
            refine ⟨true, x.em, fun _ a ha => ?_, fun z => nomatch z⟩
            obtain ⟨u1, hu1, aD, vs, ds, hv1, hds, hHD, rds, nD, gD⟩ := es'.er.look ho
            cases hds
            cases rds with
            | cons rO rds =>
              cases rds with
              | cons rL rds =>
                cases rds
                subst hv1
                have el := ints_eq hjs
                have er := ints_eq his
                subst el er
                have hlv : 2 < σv'.length := by rw [← es'.er.len]; exact hlen
                refine ⟨dx, ρ', G', T1, aD, _, _, pvv, dO, is, js, rfl, hd, List.getElem?_set_self hlv, ?_, w', hHD, nD, rO, rL, hH, rv, by simpa using hl, fun ρ3 G3 H3 t3 w3 => ?_⟩
                · rw [List.getElem?_set_ne (by decide)]
                  exact hu1
                · exact p (.bl _) ρ3 G3 H3 (t.trans w' t3 w3) (t2.trans t3.w) w3 (.bl _)
        · exact p.elim
      · exact p.elim
    · exact p.elim
end
end K76


set_option Elab.async false
set_option linter.all false
set_option maxRecDepth 100000
set_option maxHeartbeats 4000000
namespace K76
open PySem hiding Env
open PySem.Spec PyProof.Rows L2 Mi
theorem allN {α : Type} {Q : α → Prop} : ∀ p ∈ ([] : List α), Q p := fun _ h => nomatch h
theorem allC {α : Type} {Q : α → Prop} {a : α} {l : List α} (h : Q a) (hl : ∀ p ∈ l, Q p) : ∀ p ∈ a :: l, Q p := fun p hp => (List.mem_cons.mp hp).elim (fun e => e ▸ h) (hl p)
theorem allA {α : Type} {Q : α → Prop} {l m : List α} (hl : ∀ p ∈ l, Q p) (hm : ∀ p ∈ m, Q p) : ∀ p ∈ l ++ m, Q p := fun p hp => (List.mem_append.mp hp).elim (hl p) (hm p)
theorem mem_lk {β : Type} {a : Str} {o : β} : ∀ {l : List (Str × β)}, l.lookup a = some o → (a, o) ∈ l
  | [], h => by cases h
  | (b, u) :: r, h => by
    rw [List.lookup_cons] at h
    split at h
    · rename_i q
      cases h
      rw [beq_iff_eq.mp q]
      exact List.mem_cons_self
    · exact List.mem_cons_of_mem _ (mem_lk h)
def h_is_rule : He.DefD := ⟨("is_rule", none), "is_rule", "is_rule", defArgs (top 11), defBody (top 11), defScope (top 11), [], []⟩
def h_is_machine : He.DefD := ⟨("is_machine", none), "is_machine", "is_machine", defArgs (top 12), defBody (top 12), defScope (top 12), [], []⟩
def h_next_counter : He.DefD := ⟨("next_counter", none), "next_counter", "next_counter", defArgs (top 13), defBody (top 13), defScope (top 13), [], []⟩
def h_order_of_falls : He.DefD := ⟨("order_of_falls", none), "order_of_falls", "order_of_falls", defArgs (top 14), defBody (top 14), defScope (top 14), [], []⟩
def h__law_stream : He.DefD := ⟨("_law_stream", none), "_law_stream", "_law_stream", defArgs (top 16), defBody (top 16), defScope (top 16), [], []⟩
def h__law_draw : He.DefD := ⟨("_law_draw", none), "_law_draw", "_law_draw", defArgs (top 17), defBody (top 17), defScope (top 17), [], []⟩
def h__law_pick : He.DefD := ⟨("_law_pick", none), "_law_pick", "_law_pick", defArgs (top 18), defBody (top 18), defScope (top 18), [], []⟩
def h__law_mixed : He.DefD := ⟨("_law_mixed", none), "_law_mixed", "_law_mixed", defArgs (top 19), defBody (top 19), defScope (top 19), [], []⟩
def h__law_ordered : He.DefD := ⟨("_law_ordered", none), "_law_ordered", "_law_ordered", defArgs (top 20), defBody (top 20), defScope (top 20), [], []⟩
def h__law_drawn : He.DefD := ⟨("_law_drawn", none), "_law_drawn", "_law_drawn", defArgs (top 21), defBody (top 21), defScope (top 21), [], []⟩
def h__law_is_rule : He.DefD := ⟨("_law_is_rule", none), "_law_is_rule", "_law_is_rule", defArgs (top 22), defBody (top 22), defScope (top 22), [], []⟩
def h__law_is_machine : He.DefD := ⟨("_law_is_machine", none), "_law_is_machine", "_law_is_machine", defArgs (top 23), defBody (top 23), defScope (top 23), [], []⟩
def h__law_odd : He.DefD := ⟨("_law_odd", none), "_law_odd", "_law_odd", defArgs (top 24), defBody (top 24), defScope (top 24), [], []⟩
def h__law_exchanged : He.DefD := ⟨("_law_exchanged", none), "_law_exchanged", "_law_exchanged", defArgs (top 25), defBody (top 25), defScope (top 25), [], []⟩
def h__law_value : He.DefD := ⟨("_law_value", none), "_law_value", "_law_value", defArgs (top 26), defBody (top 26), defScope (top 26), [], []⟩
def h__law_due : He.DefD := ⟨("_law_due", none), "_law_due", "_law_due", defArgs (top 27), defBody (top 27), defScope (top 27), [], []⟩
def h__law_same : He.DefD := ⟨("_law_same", none), "_law_same", "_law_same", defArgs (top 28), defBody (top 28), defScope (top 28), [], []⟩
def h__law_is_told : He.DefD := ⟨("_law_is_told", none), "_law_is_told", "_law_is_told", defArgs (top 29), defBody (top 29), defScope (top 29), [], []⟩
def h_law : He.DefD := ⟨("law", none), "law", "law", defArgs (top 30), defBody (top 30), defScope (top 30), [], []⟩
def fnH : List He.DefD := ([h_is_rule, h_is_machine, h_next_counter, h_order_of_falls, h__law_stream, h__law_draw, h__law_pick, h__law_mixed, h__law_ordered, h__law_drawn] : List He.DefD) ++ ([h__law_is_rule, h__law_is_machine, h__law_odd, h__law_exchanged, h__law_value, h__law_due, h__law_same, h__law_is_told, h_law] : List He.DefD)
def faH : List He.Fa := ([.glo "is_rule", .glo "is_machine", .glo "next_counter", .glo "order_of_falls", .glo "_law_stream", .glo "_law_draw", .glo "_law_pick", .glo "_law_mixed", .glo "_law_ordered", .glo "_law_drawn"] : List He.Fa) ++ ([.glo "_law_is_rule", .glo "_law_is_machine", .glo "_law_odd", .glo "_law_exchanged", .glo "_law_value", .glo "_law_due", .glo "_law_same", .glo "_law_is_told", .glo "law", .glo "GradatimError"] : List He.Fa) ++ ([.glo "BadProof", .glo "NotAllowed", .glo "Stuck", .free "len", .free "isinstance", .free "abs", .free "int", .free "str", .free "bool", .free "tuple"] : List He.Fa) ++ ([.free "list", .free "all", .free "any", .free "sum", .free "range", .free "enumerate", .free "reversed", .free "max", .free "min", .free "sorted"] : List He.Fa) ++ ([.free "repr", .free "divmod", .free "zip", .free "super", .free "ValueError", .int "STAYS" 0, .int "FALLS" 1, .int "SET" 2, .int "MOST_COUNTERS" 8, .int "MOST_RULES" 40] : List He.Fa)
def looseH : List PySem.Str := (["GradatimError", "BadProof", "NotAllowed", "Stuck", "STAYS", "FALLS", "SET", "MOST_COUNTERS", "MOST_RULES", "is_rule"] : List PySem.Str) ++ (["is_machine", "next_counter", "order_of_falls", "_law_stream", "_law_draw", "_law_pick", "_law_mixed", "_law_ordered", "_law_drawn", "_law_is_rule"] : List PySem.Str) ++ (["_law_is_machine", "_law_odd", "_law_exchanged", "_law_value", "_law_due", "_law_same", "_law_is_told"] : List PySem.Str)
def QF (K : PySem.W.Frag) (mg : Str → Option Value) (p : Str × Df) : Prop := ∃ (fa : Addr) (fd : FuncData) (ps : List Str) (x qual : Str) (params : Arguments), FunD K x qual params p.2.body p.2.sc [] [] fa fd ∧ FnScope p.2.N ps p.2.sc ∧ ps.length = p.2.np ∧ mg p.1 = some (.ref fa) ∧ Binds K fd ps []
def QC (K : PySem.W.Frag) (mg : Str → Option Value) (p : Str × Mi.D) : Prop := ∃ u v, mg p.1 = some u ∧ RelV v u ∧ ∀ ρ (Gh : Hp), Rp K ρ Gh v p.2
section
variable {K : PySem.W.Frag} {mg : Str → Option Value} {h : Heap}
theorem q_is_rule (c : He.SaysD faH fnH K) (X : K.In h) (G : h.Ns mainGlobals mg) : QF K mg ("is_rule", d_is_rule) := by
  obtain ⟨fd, F⟩ := c.def_ 0 (d := h_is_rule) rfl
  exact ⟨_, fd, ["value", "many"], _, _, _, F, ⟨rfl, rfl, rfl, by decide +kernel, rfl, by decide +kernel, by decide +kernel⟩, rfl, He.glo_ok X G (c.fact 0 (f := .glo "is_rule") rfl), FunD.bindsN F fun _ _ _ _ _ _ us hl => match us, hl with | [_, _], _ => rfl⟩
theorem q_is_machine (c : He.SaysD faH fnH K) (X : K.In h) (G : h.Ns mainGlobals mg) : QF K mg ("is_machine", d_is_machine) := by
  obtain ⟨fd, F⟩ := c.def_ 1 (d := h_is_machine) rfl
  exact ⟨_, fd, ["value"], _, _, _, F, ⟨rfl, rfl, rfl, by decide +kernel, rfl, by decide +kernel, by decide +kernel⟩, rfl, He.glo_ok X G (c.fact 1 (f := .glo "is_machine") rfl), FunD.bindsN F fun _ _ _ _ _ _ us hl => match us, hl with | [_], _ => rfl⟩
theorem q_next_counter (c : He.SaysD faH fnH K) (X : K.In h) (G : h.Ns mainGlobals mg) : QF K mg ("next_counter", d_next_counter) := by
  obtain ⟨fd, F⟩ := c.def_ 2 (d := h_next_counter) rfl
  exact ⟨_, fd, ["machine", "left"], _, _, _, F, ⟨rfl, rfl, rfl, by decide +kernel, rfl, by decide +kernel, by decide +kernel⟩, rfl, He.glo_ok X G (c.fact 2 (f := .glo "next_counter") rfl), FunD.bindsN F fun _ _ _ _ _ _ us hl => match us, hl with | [_, _], _ => rfl⟩
theorem q_order_of_falls (c : He.SaysD faH fnH K) (X : K.In h) (G : h.Ns mainGlobals mg) : QF K mg ("order_of_falls", d_order_of_falls) := by
  obtain ⟨fd, F⟩ := c.def_ 3 (d := h_order_of_falls) rfl
  exact ⟨_, fd, ["machine"], _, _, _, F, ⟨rfl, rfl, rfl, by decide +kernel, rfl, by decide +kernel, by decide +kernel⟩, rfl, He.glo_ok X G (c.fact 3 (f := .glo "order_of_falls") rfl), FunD.bindsN F fun _ _ _ _ _ _ us hl => match us, hl with | [_], _ => rfl⟩
theorem q__law_stream (c : He.SaysD faH fnH K) (X : K.In h) (G : h.Ns mainGlobals mg) : QF K mg ("_law_stream", d__law_stream) := by
  obtain ⟨fd, F⟩ := c.def_ 4 (d := h__law_stream) rfl
  exact ⟨_, fd, ["script"], _, _, _, F, ⟨rfl, rfl, rfl, by decide +kernel, rfl, by decide +kernel, by decide +kernel⟩, rfl, He.glo_ok X G (c.fact 4 (f := .glo "_law_stream") rfl), FunD.bindsN F fun _ _ _ _ _ _ us hl => match us, hl with | [_], _ => rfl⟩
theorem q__law_draw (c : He.SaysD faH fnH K) (X : K.In h) (G : h.Ns mainGlobals mg) : QF K mg ("_law_draw", d__law_draw) := by
  obtain ⟨fd, F⟩ := c.def_ 5 (d := h__law_draw) rfl
  exact ⟨_, fd, ["stream", "many"], _, _, _, F, ⟨rfl, rfl, rfl, by decide +kernel, rfl, by decide +kernel, by decide +kernel⟩, rfl, He.glo_ok X G (c.fact 5 (f := .glo "_law_draw") rfl), FunD.bindsN F fun _ _ _ _ _ _ us hl => match us, hl with | [_, _], _ => rfl⟩
theorem q__law_pick (c : He.SaysD faH fnH K) (X : K.In h) (G : h.Ns mainGlobals mg) : QF K mg ("_law_pick", d__law_pick) := by
  obtain ⟨fd, F⟩ := c.def_ 6 (d := h__law_pick) rfl
  exact ⟨_, fd, ["stream", "rows"], _, _, _, F, ⟨rfl, rfl, rfl, by decide +kernel, rfl, by decide +kernel, by decide +kernel⟩, rfl, He.glo_ok X G (c.fact 6 (f := .glo "_law_pick") rfl), FunD.bindsN F fun _ _ _ _ _ _ us hl => match us, hl with | [_, _], _ => rfl⟩
theorem q__law_mixed (c : He.SaysD faH fnH K) (X : K.In h) (G : h.Ns mainGlobals mg) : QF K mg ("_law_mixed", d__law_mixed) := by
  obtain ⟨fd, F⟩ := c.def_ 7 (d := h__law_mixed) rfl
  exact ⟨_, fd, ["stream", "rows"], _, _, _, F, ⟨rfl, rfl, rfl, by decide +kernel, rfl, by decide +kernel, by decide +kernel⟩, rfl, He.glo_ok X G (c.fact 7 (f := .glo "_law_mixed") rfl), FunD.bindsN F fun _ _ _ _ _ _ us hl => match us, hl with | [_, _], _ => rfl⟩
theorem q__law_ordered (c : He.SaysD faH fnH K) (X : K.In h) (G : h.Ns mainGlobals mg) : QF K mg ("_law_ordered", d__law_ordered) := by
  obtain ⟨fd, F⟩ := c.def_ 8 (d := h__law_ordered) rfl
  exact ⟨_, fd, ["stream", "many", "count"], _, _, _, F, ⟨rfl, rfl, rfl, by decide +kernel, rfl, by decide +kernel, by decide +kernel⟩, rfl, He.glo_ok X G (c.fact 8 (f := .glo "_law_ordered") rfl), FunD.bindsN F fun _ _ _ _ _ _ us hl => match us, hl with | [_, _, _], _ => rfl⟩
theorem q__law_drawn (c : He.SaysD faH fnH K) (X : K.In h) (G : h.Ns mainGlobals mg) : QF K mg ("_law_drawn", d__law_drawn) := by
  obtain ⟨fd, F⟩ := c.def_ 9 (d := h__law_drawn) rfl
  exact ⟨_, fd, ["stream"], _, _, _, F, ⟨rfl, rfl, rfl, by decide +kernel, rfl, by decide +kernel, by decide +kernel⟩, rfl, He.glo_ok X G (c.fact 9 (f := .glo "_law_drawn") rfl), FunD.bindsN F fun _ _ _ _ _ _ us hl => match us, hl with | [_], _ => rfl⟩
theorem q__law_is_rule (c : He.SaysD faH fnH K) (X : K.In h) (G : h.Ns mainGlobals mg) : QF K mg ("_law_is_rule", d__law_is_rule) := by
  obtain ⟨fd, F⟩ := c.def_ 10 (d := h__law_is_rule) rfl
  exact ⟨_, fd, ["rule", "count"], _, _, _, F, ⟨rfl, rfl, rfl, by decide +kernel, rfl, by decide +kernel, by decide +kernel⟩, rfl, He.glo_ok X G (c.fact 10 (f := .glo "_law_is_rule") rfl), FunD.bindsN F fun _ _ _ _ _ _ us hl => match us, hl with | [_, _], _ => rfl⟩
theorem q__law_is_machine (c : He.SaysD faH fnH K) (X : K.In h) (G : h.Ns mainGlobals mg) : QF K mg ("_law_is_machine", d__law_is_machine) := by
  obtain ⟨fd, F⟩ := c.def_ 11 (d := h__law_is_machine) rfl
  exact ⟨_, fd, ["value"], _, _, _, F, ⟨rfl, rfl, rfl, by decide +kernel, rfl, by decide +kernel, by decide +kernel⟩, rfl, He.glo_ok X G (c.fact 11 (f := .glo "_law_is_machine") rfl), FunD.bindsN F fun _ _ _ _ _ _ us hl => match us, hl with | [_], _ => rfl⟩
theorem q__law_odd (c : He.SaysD faH fnH K) (X : K.In h) (G : h.Ns mainGlobals mg) : QF K mg ("_law_odd", d__law_odd) := by
  obtain ⟨fd, F⟩ := c.def_ 12 (d := h__law_odd) rfl
  exact ⟨_, fd, ["stream"], _, _, _, F, ⟨rfl, rfl, rfl, by decide +kernel, rfl, by decide +kernel, by decide +kernel⟩, rfl, He.glo_ok X G (c.fact 12 (f := .glo "_law_odd") rfl), FunD.bindsN F fun _ _ _ _ _ _ us hl => match us, hl with | [_], _ => rfl⟩
theorem q__law_exchanged (c : He.SaysD faH fnH K) (X : K.In h) (G : h.Ns mainGlobals mg) : QF K mg ("_law_exchanged", d__law_exchanged) := by
  obtain ⟨fd, F⟩ := c.def_ 13 (d := h__law_exchanged) rfl
  exact ⟨_, fd, ["stream", "value", "depth"], _, _, _, F, ⟨rfl, rfl, rfl, by decide +kernel, rfl, by decide +kernel, by decide +kernel⟩, rfl, He.glo_ok X G (c.fact 13 (f := .glo "_law_exchanged") rfl), FunD.bindsN F fun _ _ _ _ _ _ us hl => match us, hl with | [_, _, _], _ => rfl⟩
theorem q__law_value (c : He.SaysD faH fnH K) (X : K.In h) (G : h.Ns mainGlobals mg) : QF K mg ("_law_value", d__law_value) := by
  obtain ⟨fd, F⟩ := c.def_ 14 (d := h__law_value) rfl
  exact ⟨_, fd, ["stream"], _, _, _, F, ⟨rfl, rfl, rfl, by decide +kernel, rfl, by decide +kernel, by decide +kernel⟩, rfl, He.glo_ok X G (c.fact 14 (f := .glo "_law_value") rfl), FunD.bindsN F fun _ _ _ _ _ _ us hl => match us, hl with | [_], _ => rfl⟩
theorem q__law_due (c : He.SaysD faH fnH K) (X : K.In h) (G : h.Ns mainGlobals mg) : QF K mg ("_law_due", d__law_due) := by
  obtain ⟨fd, F⟩ := c.def_ 15 (d := h__law_due) rfl
  exact ⟨_, fd, ["machine"], _, _, _, F, ⟨rfl, rfl, rfl, by decide +kernel, rfl, by decide +kernel, by decide +kernel⟩, rfl, He.glo_ok X G (c.fact 15 (f := .glo "_law_due") rfl), FunD.bindsN F fun _ _ _ _ _ _ us hl => match us, hl with | [_], _ => rfl⟩
theorem q__law_same (c : He.SaysD faH fnH K) (X : K.In h) (G : h.Ns mainGlobals mg) : QF K mg ("_law_same", d__law_same) := by
  obtain ⟨fd, F⟩ := c.def_ 16 (d := h__law_same) rfl
  exact ⟨_, fd, ["told", "due"], _, _, _, F, ⟨rfl, rfl, rfl, by decide +kernel, rfl, by decide +kernel, by decide +kernel⟩, rfl, He.glo_ok X G (c.fact 16 (f := .glo "_law_same") rfl), FunD.bindsN F fun _ _ _ _ _ _ us hl => match us, hl with | [_, _], _ => rfl⟩
theorem q__law_is_told (c : He.SaysD faH fnH K) (X : K.In h) (G : h.Ns mainGlobals mg) : QF K mg ("_law_is_told", d__law_is_told) := by
  obtain ⟨fd, F⟩ := c.def_ 17 (d := h__law_is_told) rfl
  exact ⟨_, fd, ["machine"], _, _, _, F, ⟨rfl, rfl, rfl, by decide +kernel, rfl, by decide +kernel, by decide +kernel⟩, rfl, He.glo_ok X G (c.fact 17 (f := .glo "_law_is_told") rfl), FunD.bindsN F fun _ _ _ _ _ _ us hl => match us, hl with | [_], _ => rfl⟩
theorem q_law (c : He.SaysD faH fnH K) (X : K.In h) (G : h.Ns mainGlobals mg) : QF K mg ("law", d_law) := by
  obtain ⟨fd, F⟩ := c.def_ 18 (d := h_law) rfl
  exact ⟨_, fd, ["script"], _, _, _, F, ⟨rfl, rfl, rfl, by decide +kernel, rfl, by decide +kernel, by decide +kernel⟩, rfl, He.glo_ok X G (c.fact 18 (f := .glo "law") rfl), FunD.bindsN F fun _ _ _ _ _ _ us hl => match us, hl with | [_], _ => rfl⟩
theorem q_tab (c : He.SaysD faH fnH K) (X : K.In h) (G : h.Ns mainGlobals mg) : ∀ p ∈ tab, QF K mg p := (allA (allC (q_is_rule c X G) (allC (q_is_machine c X G) (allC (q_next_counter c X G) (allC (q_order_of_falls c X G) (allC (q__law_stream c X G) (allC (q__law_draw c X G) (allC (q__law_pick c X G) (allC (q__law_mixed c X G) (allC (q__law_ordered c X G) (allC (q__law_drawn c X G) allN)))))))))) (allC (q__law_is_rule c X G) (allC (q__law_is_machine c X G) (allC (q__law_odd c X G) (allC (q__law_exchanged c X G) (allC (q__law_value c X G) (allC (q__law_due c X G) (allC (q__law_same c X G) (allC (q__law_is_told c X G) (allC (q_law c X G) allN))))))))))
theorem i_STAYS (c : He.SaysD faH fnH K) (X : K.In h) (G : h.Ns mainGlobals mg) : QC K mg ("STAYS", (.int 0)) := by
  obtain ⟨t, e⟩ := He.int_ok X G (c.fact 45 (f := .int "STAYS" 0) rfl)
  exact ⟨_, .int 0, e, ⟨t, rfl⟩, fun _ _ => .int _⟩
theorem i_FALLS (c : He.SaysD faH fnH K) (X : K.In h) (G : h.Ns mainGlobals mg) : QC K mg ("FALLS", (.int 1)) := by
  obtain ⟨t, e⟩ := He.int_ok X G (c.fact 46 (f := .int "FALLS" 1) rfl)
  exact ⟨_, .int 1, e, ⟨t, rfl⟩, fun _ _ => .int _⟩
theorem i_SET (c : He.SaysD faH fnH K) (X : K.In h) (G : h.Ns mainGlobals mg) : QC K mg ("SET", (.int 2)) := by
  obtain ⟨t, e⟩ := He.int_ok X G (c.fact 47 (f := .int "SET" 2) rfl)
  exact ⟨_, .int 2, e, ⟨t, rfl⟩, fun _ _ => .int _⟩
theorem i_MOST_COUNTERS (c : He.SaysD faH fnH K) (X : K.In h) (G : h.Ns mainGlobals mg) : QC K mg ("MOST_COUNTERS", (.int 8)) := by
  obtain ⟨t, e⟩ := He.int_ok X G (c.fact 48 (f := .int "MOST_COUNTERS" 8) rfl)
  exact ⟨_, .int 8, e, ⟨t, rfl⟩, fun _ _ => .int _⟩
theorem i_MOST_RULES (c : He.SaysD faH fnH K) (X : K.In h) (G : h.Ns mainGlobals mg) : QC K mg ("MOST_RULES", (.int 40)) := by
  obtain ⟨t, e⟩ := He.int_ok X G (c.fact 49 (f := .int "MOST_RULES" 40) rfl)
  exact ⟨_, .int 40, e, ⟨t, rfl⟩, fun _ _ => .int _⟩
theorem q_cst (c : He.SaysD faH fnH K) (X : K.In h) (G : h.Ns mainGlobals mg) : ∀ p ∈ cst, QC K mg p := (allC (i_STAYS c X G) (allC (i_FALLS c X G) (allC (i_SET c X G) (allC (i_MOST_COUNTERS c X G) (allC (i_MOST_RULES c X G) allN)))))
theorem q_blt (c : He.SaysD faH fnH K) (X : K.In h) (G : h.Ns mainGlobals mg) : ∀ x ∈ bltNames, mg x = none := (allC (He.free_ok X G (c.fact 23 (f := .free "len") rfl)) (allC (He.free_ok X G (c.fact 24 (f := .free "isinstance") rfl)) (allC (He.free_ok X G (c.fact 25 (f := .free "abs") rfl)) (allC (He.free_ok X G (c.fact 26 (f := .free "int") rfl)) (allC (He.free_ok X G (c.fact 27 (f := .free "str") rfl)) (allC (He.free_ok X G (c.fact 28 (f := .free "bool") rfl)) (allC (He.free_ok X G (c.fact 29 (f := .free "tuple") rfl)) (allC (He.free_ok X G (c.fact 30 (f := .free "list") rfl)) (allC (He.free_ok X G (c.fact 31 (f := .free "all") rfl)) (allC (He.free_ok X G (c.fact 32 (f := .free "any") rfl)) (allC (He.free_ok X G (c.fact 33 (f := .free "sum") rfl)) (allC (He.free_ok X G (c.fact 34 (f := .free "range") rfl)) (allC (He.free_ok X G (c.fact 35 (f := .free "enumerate") rfl)) (allC (He.free_ok X G (c.fact 36 (f := .free "reversed") rfl)) (allC (He.free_ok X G (c.fact 37 (f := .free "max") rfl)) (allC (He.free_ok X G (c.fact 38 (f := .free "min") rfl)) (allC (He.free_ok X G (c.fact 39 (f := .free "sorted") rfl)) (allC (He.free_ok X G (c.fact 40 (f := .free "repr") rfl)) (allC (He.free_ok X G (c.fact 41 (f := .free "divmod") rfl)) (allC (He.free_ok X G (c.fact 42 (f := .free "zip") rfl)) (allC (He.free_ok X G (c.fact 43 (f := .free "super") rfl)) allN)))))))))))))))))))))
theorem fr_ValueError (c : He.SaysD faH fnH K) (X : K.In h) (G : h.Ns mainGlobals mg) : mg "ValueError" = none := He.free_ok X G (c.fact 44 (f := .free "ValueError") rfl)
theorem gl_GradatimError (c : He.SaysD faH fnH K) (X : K.In h) (G : h.Ns mainGlobals mg) : mg "GradatimError" = some (.ref (He.ga K "GradatimError")) := He.glo_ok X G (c.fact 19 (f := .glo "GradatimError") rfl)
theorem gl_BadProof (c : He.SaysD faH fnH K) (X : K.In h) (G : h.Ns mainGlobals mg) : mg "BadProof" = some (.ref (He.ga K "BadProof")) := He.glo_ok X G (c.fact 20 (f := .glo "BadProof") rfl)
theorem gl_NotAllowed (c : He.SaysD faH fnH K) (X : K.In h) (G : h.Ns mainGlobals mg) : mg "NotAllowed" = some (.ref (He.ga K "NotAllowed")) := He.glo_ok X G (c.fact 21 (f := .glo "NotAllowed") rfl)
theorem gl_Stuck (c : He.SaysD faH fnH K) (X : K.In h) (G : h.Ns mainGlobals mg) : mg "Stuck" = some (.ref (He.ga K "Stuck")) := He.glo_ok X G (c.fact 22 (f := .glo "Stuck") rfl)
theorem q_dom : ∀ f ∈ fnN, ∃ d, tab.lookup f = some d := by
  have e : fnN.all (fun f => (tab.lookup f).isSome) = true := by kernel_rfl
  intro f hf
  exact Option.isSome_iff_exists.mp (List.all_eq_true.mp e f hf)
theorem modH (c : He.SaysD faH fnH K) (X : K.In h) (G0 : h.Ns mainGlobals mg) {P : Program} {w : World} {base : Heap} : ModH P w K mg base G tab :=
  ⟨fun f d e => q_tab c X G0 (f, d) (mem_lk e), q_dom, q_blt c X G0, fun x d e => q_cst c X G0 (x, d) (mem_lk e)⟩
end
abbrev lawI : Nat := 30
end K76


set_option Elab.async false
set_option linter.all false
set_option maxRecDepth 100000
set_option maxHeartbeats 4000000
namespace K76
open PySem hiding Env
open PySem.Spec PyProof.Rows L2 Mi
/-! ### Stuck is made -/
abbrev PR : Program := (PySem.Challenge.rw_gradatim_k76_machines_and_falls).prog
def clsBody : Stmt → List Stmt
  | .ClassDef _ _ _ b _ _ _ _ _ _ _ => b
  | _ => []
def iS : Stmt := (clsBody (top 4)).getD 0 (.Pass ⟨0, 0, 0, 0⟩)
def argOf : List Stmt → Expr
  | .Expr (.Call _ [a] _ _) _ :: _ => a
  | _ => .Constant .none 0 ⟨0, 0, 0, 0⟩
def e0S : Expr := argOf (defBody iS)
theorem ownB_S : PySem.MiX.OwnB PR "rules" "Stuck.__init__" "rules" (defArgs iS) (defBody iS) (defScope iS) e0S where
  bind := fun _ _ _ _ _ _ _ _ => by first | rfl | kernel_rfl
  body_ := ⟨_, _, _, _, _, _, _, _, _, rfl, fun env => ⟨_, rfl⟩⟩
  star := fun _ => rfl
  nocell := by decide +kernel
  ks := by kernel_rfl
  kc := by kernel_rfl
  kself := by kernel_rfl
  kpn := by kernel_rfl
  ne := by decide
  dbg := by decide
  kind := by kernel_rfl
  co := by kernel_rfl
  gen := by kernel_rfl
  par := ⟨_, rfl, rfl⟩
  top := by kernel_rfl
theorem e0_ok {w : World} {env : PySem.Env} {s1 : Shared} {E1 : Value → Shared → Prop} {A1 : Around} {Q1 : Value → Shared → Prop} (q : ∀ u tk, Q1 u { s1 with toks := tk }) : wpAny (model PR w) A1 (eval e0S env) Q1 E1 s1 := by
  have e : ∃ x j p, e0S = .Constant (.str x) j p := ⟨_, _, _, rfl⟩
  obtain ⟨x, j, p, e⟩ := e
  rw [e]
  exact Calls.Constant_str (q _ _)
theorem mk_stuck {X : Cx} {W : WX} {R : Dn} {F : Fi} {C : CallT} {cc cda : Addr} {k : Nat} (hP : X.prog = PR) (S : Snd G C R) (g : Gx X G C) (fit : Fit X F) (tk : L2N.Takes X W) (T : PySem.MiX.OwnT X.prog X.K "rules" (He.ga X.K "Stuck") (He.ma X.K (He.ga X.K "Stuck") "__init__") cc cda "Stuck.__init__" "rules" (defArgs iS) (defBody iS) (defScope iS))
    (gS : X.mg "Stuck" = some (.ref (He.ga X.K "Stuck"))) (hr : Room k X.A) (x : Str) (p : Pos) (args : List Expr) (pos : Pos) (hx : isGl F.sc x = true) (hd : isDbg x = false) (hh : EI.has x args.length = true) : L2N.PMk X (.Call (.Name x p) args [] pos) (mkR X.K W EI x (aE R F args)) := by
  have hh : (decide (x = ("Stuck" : Str)) && args.length == 1) = true := hh
  rw [Bool.and_eq_true] at hh
  have ex : x = "Stuck" := of_decide_eq_true hh.1
  subst ex
  match args, hh.2 with
  | [a], _ =>
  cases hn : notStar a with
  | false =>
    intro pins s σ H Q I ⟨ρ, Gh, T', σ', w, er, pp⟩
    have e : aE R F [a] = EM.bad := by
      unfold aE
      simp [hn]
    rw [e] at pp
    exact pp.elim
  | true =>
  have hPM := pmk_one (p := p) (pos := pos) (P := fun _ => True) T (hP ▸ ownB_S) gS (g.blt "super" (by decide +kernel)) hr (pa_aE S g fit tk [a]) (isGl_ok fit hx) (by decide) hn (fun v u _ _ xa env s1 E1 A1 Q1 _ _ _ q => hP ▸ e0_ok q)
  intro pins s σ H Q I h
  refine hPM pins s σ H Q I (RG.mono (fun vs H1 hq => ?_) h)
  obtain ⟨ρ, Gh, T', ds, e, w, rs, he, q⟩ := hq
  have hL := rs.length
  match ds, vs, rs, he, hL with
  | [d], [v], .cons rv .nil, he, _ =>
    have he : some (⟨"Stuck", some [("rules", d)]⟩ : Xn) = some e := he
    cases he
    exact ⟨v, rfl, trivial, fun dx hdx => q _ _ ρ Gh _ (Tr.refl.new w hdx _) (w.new hdx _) ⟨rfl, dx, _, rfl, upd_same, .cons ⟨rfl, rv⟩ .nil⟩⟩
  | [], _, _, he, _ => cases he
  | _ :: _ :: _, _, _, he, _ => cases he
def initV : PySem.MiX.IW := some (("__init__" : Str), ("Stuck.__init__" : Str), defArgs iS, .stmts (defBody iS), defScope iS, mainGlobals, [("__class__" : Str)], builtinsNs)
def obI (K : PySem.W.Frag) : PySem.MiX.IW := PySem.MiX.initW K (He.ma K (He.ga K "Stuck") "__init__")
def exF (K : PySem.W.Frag) : Bool := decide (PySem.W.findIn K (.ref (He.ga K "Stuck")) "__getattribute__" = some (some (.builtin "BaseException.__getattribute__"))) && (decide (PySem.W.findIn K (.ref (He.ga K "Stuck")) "__getattr__" = some none) && (decide (PySem.W.subIn K (.ref (He.ga K "Stuck")) (.type "BaseException") = some true) && (PySem.W.hasDictIn K (He.ga K "Stuck") &&
  (decide (PySem.W.findIn K (.ref (He.ga K "Stuck")) "__class__" = some (some (.builtin "object.__class__"))) && (decide (PySem.W.specialIn K (.builtin "object.__class__") "__get__" = some (some (.builtin "getset_descriptor.__get__"))) && (decide (PySem.W.takesIn K (.builtin "object.__class__") = some true) && (decide (PySem.W.mroIn K (He.ga K "Stuck") (.type "object") = some true) &&
  (decide (PySem.W.findIn K (.ref (He.ga K "Stuck")) "rules" = some none) && (decide (PySem.W.kitOne K (.ref (He.ga K "Stuck")) (.ref (He.ga K "BadProof")) = some false) && (decide (PySem.W.kitOne K (.ref (He.ga K "Stuck")) (.ref (He.ga K "NotAllowed")) = some false) && (decide (PySem.W.kitOne K (.ref (He.ga K "Stuck")) (.ref (He.ga K "Stuck")) = some true) &&
  (decide (PySem.W.kitOne K (.ref (He.ga K "Stuck")) (.type "ValueError") = some true) && decide (PySem.W.exmOne K (.ref (He.ga K "Stuck")) (.ref (He.ga K "GradatimError")) = some true)))))))))))))
def exI (K : PySem.W.Frag) : Bool := PySem.MiX.ownB PR.main.file "rules" "Stuck.__init__" K (He.ga K "Stuck") (He.ma K (He.ga K "Stuck") "__init__") && exF K
abbrev Tell (K : PySem.W.Frag) : Prop := SaysL faH fnH obI initV exI K
theorem exF_ok {K : PySem.W.Frag} {mg : Str → Option Value} {h : Heap} (c : He.SaysD faH fnH K) (X : K.In h) (G0 : h.Ns mainGlobals mg) (e : exF K = true) : ExF K mg := by
  unfold exF at e
  simp only [Bool.and_eq_true, decide_eq_true_eq] at e
  obtain ⟨h1, h2, h3, h4, h5, h6, h7, h8, h9, h10, h11, h12, h13, h14⟩ := e
  exact ⟨gl_Stuck c X G0, gl_BadProof c X G0, gl_NotAllowed c X G0, gl_GradatimError c X G0, fr_ValueError c X G0, ⟨h1, h2, h3, h4, h5, h6, h7, h8⟩, h9, h10, h11, h12, h13, h14⟩
theorem modX {K : PySem.W.Frag} {mg : Str → Option Value} {h base : Heap} {w : World} (c : Tell K) (X : K.In h) (G0 : h.Ns mainGlobals mg) : ModX PR w K mg base G EI U := by
  intro C N qual sc f cdv A outer s H E k hr nd gx
  have tk : L2N.Takes (cxOf (L2N.CX PR w) PR w K mg base N qual sc f cdv A outer s H E) (fun cls d _ H' => E cls d H') := L2N.takes_of (X := cxOf (L2N.CX PR w) PR w K mg base N qual sc f cdv A outer s H E) rfl rfl rfl rfl
  have hx := c.x
  unfold exI at hx
  rw [Bool.and_eq_true] at hx
  obtain ⟨cc, cda, T⟩ := PySem.MiX.ownT_of (prog := PR) (pn := "rules") c.b hx.1
  have xf := exF_ok c.d X G0 hx.2
  refine ⟨PassesOwn.leaving, fun R F x p args pos S fit h1 h2 h3 => mk_stuck rfl S gx fit tk T xf.gS hr x p args pos h1 h2 h3, fun R F st m S fit hU => ?_⟩
  unfold U at hU
  cases ht : isTry st with
  | false => rw [ht] at hU; cases hU
  | true =>
    rw [ht] at hU
    by_cases hq : st = tryS ∧ F = F_told
    · have e : m = tryM R := by
        dsimp only at hU
        rw [if_pos hq] at hU
        exact (Option.some.inj hU).symm
      obtain ⟨rfl, rfl⟩ := hq
      subst e
      have hN : N = d__law_is_told.N := fit.N
      have hS : sc = d__law_is_told.sc := fit.sc
      subst hN hS
      obtain ⟨fd, Fd⟩ := c.d.def_ 16 (d := h__law_same) rfl
      have hb : Binds K fd ["told", "due"] [] := FunD.bindsN Fd fun _ _ _ _ _ _ us hl => match us, hl with | [_, _], _ => rfl
      exact ext_told (k := k + 4) S gx hr xf (q_blt c.d X G0) (He.glo_ok X G0 (c.d.fact 16 (f := .glo "_law_same") rfl)) Fd.kp hb (same_hot (k := k + 3) Fd (q_blt c.d X G0))
    · dsimp only at hU
      rw [if_neg hq] at hU
      cases hU
/-! ### the law -/
theorem facts {K : PySem.W.Frag} {mg : Str → Option Value} {h : Heap} {w : World} {f : Addr} (X : K.In h) (G0 : h.Ns mainGlobals mg) (hfa : mg ("law" : Str) = some (.ref f)) (c : Tell K) :
    ∃ (fd : FuncData) (sp : Sp), (∀ (s : Shared) (v : Value), BindsTo s fd ⟨[v], []⟩ [("script", v)]) ∧ (∀ (H : Hp) (a : Addr) (ns : List Int), Only H → SqL K H a (ns.map V.int) → sp [.ref a] H (fun v _ => v = .bl true) fun _ _ _ => False) ∧
      ∀ base : Heap, K.In base → base.Ns mainGlobals mg → FnOk PR w K mg base CX0 12 f fd ["script"] sp := by
  obtain ⟨fd, Fd⟩ := c.d.def_ 18 (d := h_law) rfl
  have hm := He.glo_ok X G0 (c.d.fact 18 (f := .glo "law") rfl)
  have e := hfa.symm.trans hm
  cases e
  have b := FunD.bindsA (ps := ["script"]) Fd fun _ _ _ _ _ _ us hl => match us, hl with | [_], _ => rfl
  refine ⟨fd, fun vs H Q _ => spC K (cl 8) "law" vs H Q fun _ _ _ => False, fun s v => b s [v] rfl, fun H a ns hO hS => ?_, fun base _ _ => ?_⟩
  · have hR := c.seq hS
    have hfrz : ∃ o, H a = some (.frz o (.lst (ns.map V.int))) := by
      rcases hR with h1 | ⟨o, h1⟩
      · rcases hO a with z | ⟨o, xs, z⟩
        · rw [z] at h1; cases h1
        · rw [z] at h1; cases h1
      · exact ⟨o, h1⟩
    obtain ⟨o, ha⟩ := hfrz
    obtain ⟨T', el⟩ := law_ok 0 ns
    refine ⟨[a], fun _ => none, [.frz (iL ns)], [.obj 0], ⟨fun _ _ z => (nomatch z), rfl, fun n ob hn => ?_, List.nodup_cons.mpr ⟨by simp, List.nodup_nil⟩, fun _ _ => rfl⟩, .cons (.obj rfl) .nil, ?_⟩
    · cases n with
      | zero =>
        have : ob = .frz (iL ns) := by simpa using hn.symm
        subst this
        exact ⟨a, rfl, o, _, ha, Rps.ints⟩
      | succ n => simp at hn
    · show Post K _ _ _ _ _ _ _ (cl 8 "law" [.obj 0] [.frz (iL ns)])
      rw [el]
      intro v ρ' G' H' _ _ kv
      have kv : Rp K ρ' G' v (.bl true) := kv
      cases kv
      rfl
  · exact fn_nox (fn_one (M := fuelE) (L := fuelE) (modH (P := PR) (w := w) (base := base) c.d X G0) (modX (base := base) (w := w) c X G0) 7 (f := "law") (d := d_law) rfl Fd ⟨rfl, rfl, rfl, by decide +kernel, rfl, by decide +kernel, by decide +kernel⟩ rfl)
end K76


set_option Elab.async false
set_option linter.all false
set_option maxRecDepth 100000
set_option maxHeartbeats 0
namespace K76
open PySem hiding Env
open PySem.Spec PyProof.Rows L2 Mi
abbrev RR : PySem.W.OpenRow := PySem.W.OpenLaw.row PySem.Challenge.rw_gradatim_k76_machines_and_falls
abbrev hk : PySem.W.Hook := hookL 6 faH fnH obI initV exI
def obR (s : PySem.W.SharedT) : He.AlD × PySem.MiX.IW × Bool := obsL 6 faH fnH obI exI (HandSHeadRun.getT s)
theorem obR_eq (s : PySem.W.SharedT) : obR s = hk.obs s.abs := obsL_eq (vb := initV) (HandSHeadRun.getT_eq s)
theorem run (w : World) : HandSHeadRun.RunEq RR (PySem.W.view RR.prog [lawI]) hk obR 3000 looseH w := by
  intro os
  kernel_rfl
end K76
open PySem PySem.W PySem.Calls PyProof.Rows
theorem PySem.Challenge.cw_gradatim_k76_machines_and_falls_holds : PySem.Challenge.rw_gradatim_k76_machines_and_falls.Holds := by
  w_on; o_law
  refine HandSHeadRun.head_any (r := OpenLaw.row PySem.Challenge.rw_gradatim_k76_machines_and_falls) (q := view (OpenLaw.row PySem.Challenge.rw_gradatim_k76_machines_and_falls).prog [K76.lawI]) (H := K76.hk) (ob := K76.obR) (M := 3000) (loose := K76.looseH) (d := HandSHeadRun.topDef (OpenLaw.row PySem.Challenge.rw_gradatim_k76_machines_and_falls).prog K76.lawI) (kwd := []) K76.obR_eq
    (by kernel_rfl) (fun s => by kernel_rfl) K76.run (by kernel_rfl) (by kernel_rfl) (by kernel_rfl) (by rfl) (by first | assumption | decide +kernel) (by decide +kernel) ⟨rfl, rfl, rfl, rfl, rfl, by decide +kernel⟩ ?hw ?hc
  case hw => w_witness2
  case hc =>
    refine L2.walk_ofE (l := PySem.Challenge.rw_gradatim_k76_machines_and_falls) (n := 63) (k := 12) (x := "script") (CX := L2.CX0) rfl (by decide) (by kernel_rfl) ⟨rfl, by decide, by decide⟩ ?F (fun _ _ _ _ z => z)
    intro w mg fa h Y G hmg0
    obtain ⟨K, KX, c⟩ := Y
    have hmg : mg ("law" : PySem.Str) = some (.ref fa) := by
      have e : (HandSHeadRun.topDef (OpenLaw.row PySem.Challenge.rw_gradatim_k76_machines_and_falls).prog K76.lawI).name = ("law" : PySem.Str) := by kernel_rfl
      rw [← e]
      exact hmg0
    obtain ⟨fd, sp, hb, hs, hF⟩ := K76.facts (w := w) KX G hmg c
    exact ⟨K, fd, sp, KX, hb, fun H a ns hl hO hS => hs H a ns hO hS, hF⟩


