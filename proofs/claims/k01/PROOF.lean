import PyProof.Rows.All
import Wide.All
import OpenK.AllK
import Wide.FinOn
import HandS.Base
import HandS.Call
import HandS.List
import HandS.Text
import HandS.Exc
import HandS.Words
import HandS.Wide
import HandS.TupAny
import HandS.Deep
import HandS.Codes
import HandS.Flow
import HandS.IsInst
import HandS.More
import HandS.DictComp
import HandS.ExcIs
import HandS.ExcOwn
import HandS.Defaults
import HandS.Comp
import HandS.Iter
import HandS.Walk
import HandS.ExcInit
import HandS.ExcValue
import HandS.ExcField
import HandS.Property
import KE.KExcInit
import KE.KExcIs
import HandS.Ends
import HandS.Head0
import HandS.Head1
import HandS.Head2
import HandS.HeadEnd
import HandS.HeadHook1
import HandS.HeadHook2
import PyProof.ExcBaseAll.ValueError
import PyProof.ExcBaseAll.LookupError
import PyProof.ExcBaseAll.ArithmeticError
import PySem.Challenge.RW_spareblocks_k01_limits_and_errors
set_option Elab.async false
set_option linter.all false
set_option maxRecDepth 100000
set_option Elab.async false
/-! Am0: an abstract machine for the Python of this program: tuples, ints, texts are values; lists, dicts, instances stand in a store. -/
namespace Am
open PySem
/-- values -/
inductive D where
  | non | bl (b : Bool) | int (i : Int) | str (x : Str) | tup (ds : List D) | ref (i : Nat) | exc (C : Str) (ns : List Str) (ds : List D)
  deriving Inhabited
abbrev Flds := List (Str × D)
/-- what stands in the store; ro: a list that is only read -/
inductive MO where
  | lst (ds : List D) | ro (ds : List D) | dic (kvs : List (D × D)) | ins (C : Str) (fs : Flds)
  deriving Inhabited
abbrev Sto := List MO
abbrev Loc := List (Option D)
inductive Out (α : Type) where
  | ok (a : α) (S : Sto) | exc (e : D) (S : Sto) | bad
def Out.bind {α β : Type} (o : Out α) (f : α → Sto → Out β) : Out β :=
  match o with
  | .ok a S => f a S
  | .exc e S => .exc e S
  | .bad => .bad
@[simp] theorem Out.ok_bind {α β : Type} (a : α) (S : Sto) (f : α → Sto → Out β) : (Out.ok a S).bind f = f a S := rfl
@[simp] theorem Out.exc_bind {α β : Type} (e : D) (S : Sto) (f : α → Sto → Out β) : (Out.exc e S : Out α).bind f = .exc e S := rfl
@[simp] theorem Out.bad_bind {α β : Type} (f : α → Sto → Out β) : (Out.bad : Out α).bind f = .bad := rfl
inductive Bop where
  | add | sub | mul | fdiv | mod | pow
  deriving DecidableEq
inductive Cop where
  | eq | ne | lt | le | gt | ge | is_ | isnot | in_ | notin
  deriving DecidableEq
/-- built-in calls -/
inductive Blt where
  | len | abs | int_ | repr | list | tuple | sum | all | any | max2 | min2 | max1 | min1 | str_ | sorted
  deriving DecidableEq
/-- a target of a loop or a comprehension -/
inductive Tg where
  | one (i : Nat) | two (i j : Nat) | three (i j k : Nat)
  deriving DecidableEq
mutual
inductive X where
  | var (i : Nat) | con (d : D) | glob (x : Str)
  | bin (o : Bop) (a b : X) | neg (a : X)
  | cmp (o : Cop) (a b : X) | chain (o o' : Cop) (a b c : X)
  | and (a b : X) | or (a b : X) | not (a : X) | ite (c a b : X)
  | tup (es : Xs) | lst (es : Xs) | dic0 | dic1 (k v : X)
  | ix (a b : X) | sl (a : X) (lo hi : Ox)
  | call (f : Str) (es : Xs) (kn : List Str) (ks : Xs)
  | mk (C : Str) (es : Xs) (kn : List Str) (ks : Xs)
  | meth (o : X) (m : Str) (es : Xs) (kn : List Str) (ks : Xs)
  | blt (f : Blt) (es : Xs)
  | isi (a : X) (cs : List Str)
  | attr (a : X) (f : Str)
  | comp (elt : X) (tg : Tg) (it : Itx) (ifs : Xs) (own : List Nat)
inductive Xs where
  | nil | cons (e : X) (es : Xs)
inductive Ox where
  | no | so (e : X)
inductive Itx where
  | seq (e : X) | rng1 (a : X) | rng2 (a b : X) | enm (e : X) | enl (e : X) | zip (a b : X)
end
mutual
inductive S where
  | exp (e : X) | set (i : Nat) (e : X) | unpack (g : Tg) (e : X)
  | setat (o : X) (f : Str) (e : X) | setix (o i e : X)
  | ret (e : X) | retN | brk | cont | pass | raise (e : X)
  | ite (c : X) (a b : Ss) | whl (c : X) (b : Ss) | for_ (tg : Tg) (it : Itx) (b : Ss)
inductive Ss where
  | nil | cons (s : S) (r : Ss)
end
end Am
/-! ### helpers -/
namespace Am
open PySem
def lim : Nat := 16777216
abbrev atI (xs : List D) (i : Int) : Option D := L2.atI xs i
abbrev ixN (n : Nat) (i : Int) : Option Nat := L2.ixN n i
/-- the items of a list in the store -/
def lstAt (S : Sto) (i : Nat) : Option (List D) :=
  match S[i]? with
  | some (.lst ds) => some ds
  | some (.ro ds) => some ds
  | _ => none
/-- a list that may be written -/
def wlstAt (S : Sto) (i : Nat) : Option (List D) :=
  match S[i]? with
  | some (.lst ds) => some ds
  | _ => none
/-- as data -/
def pd : Nat → Sto → D → Option PyData
  | _, _, .non => some .none
  | _, _, .bl b => some (.bool b)
  | _, _, .int i => some (.int i)
  | _, _, .str x => some (.str x)
  | _, _, .exc _ _ _ => none
  | 0, _, .tup _ => none
  | 0, _, .ref _ => none
  | n + 1, S, .tup ds => (ds.mapM (pd n S)).map .tuple
  | n + 1, S, .ref i => match lstAt S i with
    | some ds => (ds.mapM (pd n S)).map .list
    | none => none
def okd (p : PyData) : Bool := SeqAt.shaped p
/-- a dict in the store -/
def dicAt (S : Sto) (i : Nat) : Option (List (D × D)) :=
  match S[i]? with
  | some (.dic kvs) => some kvs
  | _ => none
def dicOf (S : Sto) : D → Option (List (D × D))
  | .ref i => dicAt S i
  | _ => none
def keyD : D → Option L2.Key
  | .int i => some (.inl i)
  | .str x => some (.inr x)
  | _ => none
def flatPd : D → Option PyData
  | .non => some .none
  | .bl b => some (.bool b)
  | .int i => some (.int i)
  | .str x => some (.str x)
  | _ => none
def flatKv : List (D × D) → Option (List (PyData × PyData))
  | [] => some []
  | p :: r => match flatPd p.1, flatPd p.2, flatKv r with
    | some k, some v, some l => some ((k, v) :: l)
    | _, _, _ => none
def putKD (kvs : List (D × D)) (k v : D) : List (D × D) :=
  if kvs.any (fun p => decide (keyD p.1 = keyD k)) = true then kvs.map (fun p => if keyD p.1 = keyD k then (p.1, v) else p) else kvs ++ [(k, v)]
def mergeD (kvs : List (D × D)) (l : List (D × D)) : List (D × D) := l.foldl (fun c p => putKD c p.1 p.2) kvs
def pairD : List D → Option (List (D × D))
  | [] => some []
  | k :: v :: r => (pairD r).map ((k, v) :: ·)
  | _ => none
/-- one and the same dict -/
def sameDic (S : Sto) (a b : D) : Bool :=
  match a, b with
  | .ref i, .ref j => i == j && (match dicAt S i with
    | some kvs => (flatKv kvs).isSome && decide (kvs.map fun p => keyD p.1).Nodup
    | none => false)
  | _, _ => false
def eqD1 (S : Sto) (a b : D) : Option Bool :=
  match pd 60 S a, pd 60 S b with
  | some p, some q => if okd p && okd q then some (PyData.eqv p q) else none
  | _, _ => if sameDic S a b then some true else none
def strs2 : D → D → Option (Str × Str)
  | .str x, .str y => some (x, y)
  | _, _ => none
def eqD (S : Sto) (a b : D) : Option Bool :=
  match strs2 a b with
  | some p => some (decide (p.1 = p.2))
  | none => eqD1 S a b
def truthy (S : Sto) : D → Option Bool
  | .non => some false
  | .bl b => some b
  | .int i => some (i != 0)
  | .str x => if x.length ≤ lim then some ((x.length : Int) != 0) else none
  | .tup ds => some (!ds.isEmpty)
  | .ref i => match S[i]? with
    | some (.lst ds) => some (!ds.isEmpty)
    | some (.ro ds) => some (!ds.isEmpty)
    | _ => none
  | .exc _ _ _ => none
def lift {α : Type} (S : Sto) : Option α → Out α
  | some a => .ok a S
  | none => .bad
@[simp] theorem lift_some {α : Type} (S : Sto) (a : α) : lift S (some a) = .ok a S := rfl
@[simp] theorem lift_none {α : Type} (S : Sto) : lift S (none : Option α) = .bad := rfl
/-! ### operators -/
def mulOk (i j : Int) : Bool := decide (i.natAbs.log2 + j.natAbs.log2 < 1000000)
def addD (S : Sto) : D → D → Out D
  | .int i, .int j => .ok (.int (i + j)) S
  | .str x, .str y => if x.length + y.length ≤ lim then .ok (.str (x ++ y)) S else .bad
  | .tup xs, .tup ys => if xs.length + ys.length ≤ lim then .ok (.tup (xs ++ ys)) S else .bad
  | .ref i, .ref j => match wlstAt S i, wlstAt S j with
    | some xs, some ys => if xs.length + ys.length ≤ lim then .ok (.ref S.length) (S ++ [.lst (xs ++ ys)]) else .bad
    | _, _ => .bad
  | _, _ => .bad
def binD (o : Bop) (S : Sto) (a b : D) : Out D :=
  match o with
  | .add => addD S a b
  | .sub => match a, b with
    | .int i, .int j => .ok (.int (i - j)) S
    | _, _ => .bad
  | .mul => match a, b with
    | .int i, .int j => if mulOk i j then .ok (.int (i * j)) S else .bad
    | _, _ => .bad
  | .fdiv => match a, b with
    | .int i, .int j => if 0 < j ∧ j.natAbs.log2 < 9000 then .ok (.int (i / j)) S else .bad
    | _, _ => .bad
  | .mod => match a, b with
    | .int i, .int j => if 0 < j then .ok (.int (i % j)) S else .bad
    | _, _ => .bad
  | .pow => match a, b with
    | .int i, .int j => if 0 ≤ j ∧ j ≤ 1000000 ∧ i.natAbs < 2 ^ 64 then .ok (.int (i ^ j.toNat)) S else .bad
    | _, _ => .bad
def intsOp (f : Int → Int → Bool) : D → D → Option Bool
  | .int i, .int j => some (f i j)
  | _, _ => none
/-- membership -/
def inD (S : Sto) (a b : D) : Option Bool :=
  match a, b with
  | .str x, .str y => some (!(Builtin.Str.occurrences y x 0 y.length 1).isEmpty)
  | a, b => match pd 60 S a, pd 60 S b with
    | some p, some (.list qs) => if okd p && okd (.list qs) then some (qs.any fun q => PyData.eqv q p) else none
    | some p, some (.tuple qs) => if okd p && okd (.tuple qs) then some (qs.any fun q => PyData.eqv q p) else none
    | _, _ => none
def isD (a b : D) : Option Bool :=
  match a, b with
  | .non, .non => some true
  | _, .non => some false
  | _, _ => none
def cmpD (o : Cop) (S : Sto) (a b : D) : Option Bool :=
  match o with
  | .eq => eqD S a b
  | .ne => (eqD S a b).map (!·)
  | .lt => intsOp (fun i j => decide (i < j)) a b
  | .le => intsOp (fun i j => decide (i ≤ j)) a b
  | .gt => intsOp (fun i j => decide (j < i)) a b
  | .ge => intsOp (fun i j => decide (j ≤ i)) a b
  | .is_ => isD a b
  | .isnot => (isD a b).map (!·)
  | .in_ => inD S a b
  | .notin => (inD S a b).map (!·)
/-- a[i] -/
def ixD (S : Sto) (a i : D) : Option D :=
  match a, i with
  | .tup ds, .int k => atI ds k
  | .str x, .int k => if x.length ≤ lim then (L2.atI x.cps.toList k).map fun c => .str ⟨#[c]⟩ else none
  | .ref r, .int k => match lstAt S r with
    | some ds => atI ds k
    | none => none
  | _, _ => none
def cutD (xs : List D) (lo hi : Option Int) : List D := (xs.drop (HT.sIx xs.length 0 lo)).take (HT.sIx xs.length xs.length hi - HT.sIx xs.length 0 lo)
def slD (S : Sto) (a : D) (lo hi : Option Int) : Out D :=
  match a with
  | .tup ds => .ok (.tup (cutD ds lo hi)) S
  | .str x => if x.length ≤ lim then .ok (.str (Txt.slice x lo hi)) S else .bad
  | .ref r => match lstAt S r with
    | some ds => .ok (.ref S.length) (S ++ [.lst (cutD ds lo hi)])
    | none => .bad
  | _ => .bad
def putD (f : Str) (d : D) : Flds → Flds
  | [] => [(f, d)]
  | p :: r => if p.1 = f then (f, d) :: r else p :: putD f d r
/-! ### built-in calls -/
def intsOf : List D → Option (List Int)
  | [] => some []
  | .int i :: r => (intsOf r).map (i :: ·)
  | _ :: _ => none
def blsOf : List D → Option (List Bool)
  | [] => some []
  | .bl b :: r => (blsOf r).map (b :: ·)
  | _ :: _ => none
def maxL : List Int → Int
  | [] => 0
  | [i] => i
  | i :: r => max i (maxL r)
def minL : List Int → Int
  | [] => 0
  | [i] => i
  | i :: r => min i (minL r)
def seqOf (S : Sto) : D → Option (List D)
  | .tup ds => some ds
  | .ref r => lstAt S r
  | _ => none
def reprOk (p : PyData) : Bool := p.showable && !p.hasDict && decide (p.depth ≤ 60) && decide (p.shown.length ≤ lim)
def one (as : List D) (g : D → Out D) : Out D :=
  match as with
  | [a] => g a
  | _ => .bad
def two (as : List D) (g : D → D → Out D) : Out D :=
  match as with
  | [a, b] => g a b
  | _ => .bad
def lenD (S : Sto) (a : D) : Out D :=
  match a with
  | .str x => if x.length ≤ lim then .ok (.int x.length) S else .bad
  | a => match seqOf S a with
    | some ds => .ok (.int ds.length) S
    | none => .bad
def intD (S : Sto) (a : D) : Out D :=
  match a with
  | .int i => .ok (.int i) S
  | .bl b => .ok (.int (if b then 1 else 0)) S
  | _ => .bad
def reprD (S : Sto) (a : D) : Out D :=
  match pd 60 S a with
  | some p => if reprOk p then .ok (.str p.shown) S else .bad
  | none => match (dicOf S a).bind flatKv with
    | some kvs => if (PyData.dict kvs).showable = true ∧ (PyData.dict kvs).depth ≤ 60 ∧ (PyData.dict kvs).shown.length ≤ lim then .ok (.str (PyData.dict kvs).shown) S else .bad
    | none => .bad
def lintsD (S : Sto) (a : D) : Option (List Int) :=
  match a with
  | .ref r => (lstAt S r).bind intsOf
  | _ => none
def lblsD (S : Sto) (a : D) : Option (List Bool) :=
  match a with
  | .ref r => (lstAt S r).bind blsOf
  | _ => none
def bltD (f : Blt) (S : Sto) (as : List D) : Out D :=
  match f with
  | .len => one as (lenD S)
  | .abs => one as fun a => match a with
    | .int i => .ok (.int (if i < 0 then -i else i)) S
    | _ => .bad
  | .int_ => one as (intD S)
  | .repr => one as (reprD S)
  | .list => one as fun a => match seqOf S a with
    | some ds => .ok (.ref S.length) (S ++ [.lst ds])
    | none => .bad
  | .tuple => one as fun a => match seqOf S a with
    | some ds => .ok (.tup ds) S
    | none => .bad
  | .sum => one as fun a => match lintsD S a with
    | some ns => .ok (.int ns.sum) S
    | none => .bad
  | .all => one as fun a => match lblsD S a with
    | some bs => .ok (.bl (bs.all id)) S
    | none => .bad
  | .any => one as fun a => match lblsD S a with
    | some bs => .ok (.bl (bs.any id)) S
    | none => .bad
  | .max2 => two as fun a b => match a, b with
    | .int i, .int j => .ok (.int (if j > i then j else i)) S
    | _, _ => .bad
  | .min2 => two as fun a b => match a, b with
    | .int i, .int j => .ok (.int (if j < i then j else i)) S
    | _, _ => .bad
  | .max1 => one as fun a => match lintsD S a with
    | some (n :: ns) => .ok (.int (maxL (n :: ns))) S
    | _ => .bad
  | .min1 => one as fun a => match lintsD S a with
    | some (n :: ns) => .ok (.int (minL (n :: ns))) S
    | _ => .bad
  | .str_ => one as fun a => match a with
    | .int i => if i.natAbs.log2 < 1920 then .ok (.str (toString i)) S else .bad
    | _ => .bad
  | .sorted => .bad
/-! ### classes -/
/-- where a parameter's value comes from: a positional argument, a keyword's, a default -/
inductive Src where
  | pos (i : Nat) | kw (i : Nat) | con (d : D)
def Src.get (as ws : List D) : Src → Option D
  | .pos i => as[i]?
  | .kw i => ws[i]?
  | .con d => some d
def srcs (as ws : List D) : List Src → Option (List D)
  | [] => some []
  | s :: r => match s.get as ws with
    | some d => (srcs as ws r).map (d :: ·)
    | none => none
abbrev Shp := List ((Nat × List Str) × List Src)
def Shp.bind (sh : Shp) (as : List D) (kn : List Str) (ws : List D) : Option (List D) :=
  if ws.length = kn.length then (match sh.lookup (as.length, kn) with
    | some src => srcs as ws src
    | none => none) else none
/-- a def: its parameters, how it may be called, how many names it has, its body -/
structure FDef where
  ps : List Str
  shp : Shp
  n : Nat
  body : Ss
/-- a class: exc: an exception's attributes and how it may be made; mro: its own name, the own classes above, the built-in ones -/
structure CDef where
  exc : Option (List Str × Shp)
  mro : List Str
  meths : List (Str × Str)
  flds : List Str
  props : List (Str × Str)
/-- tn, cn: the types and the classes between which isinstance is told -/
structure Tab where
  con : List (Str × D)
  fn : List (Str × FDef)
  cls : List (Str × CDef)
  tn : List Str
  cn : List Str
def mroOf (T : Tab) (t : Str) : List Str :=
  match T.cls.lookup t with
  | some c => c.mro
  | none => if t = "bool" then ["bool", "int"] else [t]
/-- a class of instances -/
def insC (T : Tab) (C : Str) : Option CDef :=
  match T.cls.lookup C with
  | some c => if c.exc.isNone then some c else none
  | none => none
def tyName (T : Tab) (S : Sto) : D → Option Str
  | .non => some "NoneType"
  | .bl _ => some "bool"
  | .int _ => some "int"
  | .str _ => some "str"
  | .tup _ => some "tuple"
  | .ref i => match S[i]? with
    | some (.lst _) => some "list"
    | some (.ro _) => some "list"
    | some (.dic _) => some "dict"
    | some (.ins C _) => (insC T C).map fun _ => C
    | none => none
  | .exc C _ _ => match T.cls.lookup C with
    | some c => if c.exc.isSome then some C else none
    | none => none
def isiD (T : Tab) (S : Sto) (a : D) (cs : List Str) : Option Bool :=
  match tyName T S a with
  | some t => if T.tn.contains t && cs.all T.cn.contains then some (cs.any fun c => (mroOf T t).contains c) else none
  | none => none
/-- the class of an instance that has no attribute m -/
def clsOf (S : Sto) (a : D) (m : Str) : Option Str :=
  match a with
  | .ref i => match S[i]? with
    | some (.ins C fs) => if fs.lookup m = none then some C else none
    | _ => none
  | _ => none
def fldOk (T : Tab) (C f : Str) : Bool :=
  match insC T C with
  | some c => c.flds.contains f
  | none => false
def xfldOk (T : Tab) (C f : Str) : Bool :=
  match T.cls.lookup C with
  | some c => c.exc.isSome && c.flds.contains f
  | none => false
def attrD (T : Tab) (S : Sto) (a : D) (f : Str) : Option D :=
  match a with
  | .ref i => match S[i]? with
    | some (.ins C fs) => if fldOk T C f then fs.lookup f else none
    | _ => none
  | .exc C ns ds => if xfldOk T C f then (ns.zip ds).lookup f else none
  | _ => none
/-- the getter of a property -/
def propD (T : Tab) (S : Sto) (a : D) (f : Str) : Option Str :=
  match a with
  | .ref i => match S[i]? with
    | some (.ins C _) => match insC T C with
      | some c => c.props.lookup f
      | none => none
    | _ => none
  | _ => none
def setatD (T : Tab) (S : Sto) (a : D) (f : Str) (d : D) : Option Sto :=
  match a with
  | .ref i => match S[i]? with
    | some (.ins C fs) => if fs.length < 900 ∧ fldOk T C f = true then some (S.set i (.ins C (putD f d fs))) else none
    | _ => none
  | _ => none
def setixD (S : Sto) (a i d : D) : Option Sto :=
  match a, i with
  | .ref r, .int k => match wlstAt S r with
    | some ds => (ixN ds.length k).map fun j => S.set r (.lst (ds.set j d))
    | none => none
  | _, _ => none
/-- the def of a method -/
def methD (T : Tab) (S : Sto) (a : D) (m : Str) : Option (Str × FDef) :=
  match clsOf S a m with
  | some C => match insC T C with
    | some c => match c.meths.lookup m with
      | some f => match T.fn.lookup f with
        | some d => some (f, d)
        | none => none
      | none => none
    | none => none
  | none => none
/-- how a class is made: an exception's attributes, or the def __init__ -/
def mkD (T : Tab) (C : Str) : Option ((List Str × Shp) ⊕ (Str × FDef)) :=
  match T.cls.lookup C with
  | some c => match c.exc with
    | some e => some (.inl e)
    | none => match c.meths.lookup ("__init__" : Str) with
      | some g => match T.fn.lookup g with
        | some d => some (.inr (g, d))
        | none => none
      | none => none
  | none => none
/-! ### what is walked -/
inductive Itv where
  | lst (r : Nat) | fix (ds : List D) | enl (r : Nat) | zipl (r q : Nat)
/-- the k-th item: none: not to be told; some none: the end -/
def Itv.at (v : Itv) (S : Sto) (k : Nat) : Option (Option D) :=
  match v with
  | .lst r => (lstAt S r).map fun ds => ds[k]?
  | .fix ds => some ds[k]?
  | .enl r => (lstAt S r).map fun ds => ds[k]?.map fun d => .tup [.int k, d]
  | .zipl r q => match lstAt S r, lstAt S q with
    | some ds, some es => some (match ds[k]?, es[k]? with
      | some d, some e => some (.tup [d, e])
      | _, _ => none)
    | _, _ => none
def Itv.size (v : Itv) (S : Sto) : Nat :=
  match v with
  | .lst r => ((lstAt S r).getD []).length
  | .fix ds => ds.length
  | .enl r => ((lstAt S r).getD []).length
  | .zipl r _ => ((lstAt S r).getD []).length
def setTg (tg : Tg) (d : D) (L : Loc) : Option Loc :=
  match tg, d with
  | .one i, d => some (L.set i (some d))
  | .two i j, .tup [a, b] => some ((L.set i (some a)).set j (some b))
  | .three i j k, .tup [a, b, c] => some (((L.set i (some a)).set j (some b)).set k (some c))
  | _, _ => none
def rngD (a b : Int) : List D := (List.range (b - a).toNat).map fun k : Nat => .int (a + (k : Int))
def rngOk (a b : Int) : Bool := decide (-(2 ^ 62) ≤ a ∧ a < 2 ^ 62 ∧ -(2 ^ 62) ≤ b ∧ b < 2 ^ 62)
def wipeL (L : Loc) : List Nat → Loc
  | [] => L
  | v :: vs => (wipeL L vs).set v none
/-! ### expressions -/
section
variable (T : Tab) (R : Str → List D → Sto → Out D)
/-- a comprehension's loop: D the new list's place -/
def compL (v : Itv) (tg : Tg) (r : Nat) (c : Loc → Sto → Out Bool) (f : Loc → Sto → Out D) : Nat → Nat → Loc → Sto → Out D
  | 0, _, _, _ => .bad
  | n + 1, k, L, S => match v.at S k with
    | none => .bad
    | some none => .ok (.ref r) S
    | some (some d) => match setTg tg d L with
      | none => .bad
      | some L1 => match c L1 S with
        | .ok false S1 => compL v tg r c f n (k + 1) L S1
        | .ok true S1 => match f L1 S1 with
          | .ok y S2 => match wlstAt S2 r with
            | some acc => if acc.length < lim then compL v tg r c f n (k + 1) L (S2.set r (.lst (acc ++ [y]))) else .bad
            | none => .bad
          | _ => .bad
        | _ => .bad
mutual
def evE : X → Loc → Sto → Out D
  | .var i, L, S => match L[i]? with
    | some (some d) => .ok d S
    | _ => .bad
  | .con d, _, S => .ok d S
  | .glob x, _, S => lift S (T.con.lookup x)
  | .bin o a b, L, S => (evE a L S).bind fun x S1 => (evE b L S1).bind fun y S2 => binD o S2 x y
  | .neg a, L, S => (evE a L S).bind fun x S1 => match x with
    | .int i => .ok (.int (-i)) S1
    | _ => .bad
  | .cmp o a b, L, S => (evE a L S).bind fun x S1 => (evE b L S1).bind fun y S2 => lift S2 ((cmpD o S2 x y).map .bl)
  | .chain o o' a b c, L, S => (evE a L S).bind fun x S1 => (evE b L S1).bind fun y S2 => (lift S2 (cmpD o S2 x y)).bind fun k S2 =>
      if k = true then (evE c L S2).bind fun z S3 => lift S3 ((cmpD o' S3 y z).map .bl) else .ok (.bl false) S2
  | .and a b, L, S => (evE a L S).bind fun x S1 => (lift S1 (truthy S1 x)).bind fun k S1 => if k = true then evE b L S1 else .ok x S1
  | .or a b, L, S => (evE a L S).bind fun x S1 => (lift S1 (truthy S1 x)).bind fun k S1 => if k = true then .ok x S1 else evE b L S1
  | .not a, L, S => (evE a L S).bind fun x S1 => lift S1 ((truthy S1 x).map fun k => .bl (!k))
  | .ite c a b, L, S => (evE c L S).bind fun x S1 => (lift S1 (truthy S1 x)).bind fun k S1 => if k = true then evE a L S1 else evE b L S1
  | .tup es, L, S => (evs es L S).bind fun ds S1 => if ds.length ≤ lim then .ok (.tup ds) S1 else .bad
  | .lst es, L, S => (evs es L S).bind fun ds S1 => if ds.length ≤ lim then .ok (.ref S1.length) (S1 ++ [.lst ds]) else .bad
  | .dic0, _, S => .ok (.ref S.length) (S ++ [.dic []])
  | .dic1 k v, L, S => (evE k L (S ++ [.dic []])).bind fun a S1 => (evE v L S1).bind fun b S2 => match dicAt S2 S.length, keyD a with
    | some [], some _ => .ok (.ref S.length) (S2.set S.length (.dic [(a, b)]))
    | _, _ => .bad
  | .ix a b, L, S => (evE a L S).bind fun x S1 => (evE b L S1).bind fun y S2 => lift S2 (ixD S2 x y)
  | .sl a lo hi, L, S => (evE a L S).bind fun x S1 => (evO lo L S1).bind fun l S2 => (evO hi L S2).bind fun h S3 => slD S3 x l h
  | .call f es kn ks, L, S => match T.fn.lookup f with
    | some d => (evs es L S).bind fun as S1 => (evs ks L S1).bind fun ws S2 => match d.shp.bind as kn ws with
      | some vs => R f vs S2
      | none => .bad
    | none => .bad
  | .meth o m es kn ks, L, S => (evE o L S).bind fun x S0 => match methD T S0 x m with
    | some (f, d) => (evs es L S0).bind fun as S1 => (evs ks L S1).bind fun ws S2 => match d.shp.bind (x :: as) kn ws with
      | some vs => R f vs S2
      | none => .bad
    | none => .bad
  | .mk C es kn ks, L, S => match mkD T C with
    | some (.inl (ns, sh)) => (evs es L S).bind fun as S1 => (evs ks L S1).bind fun ws S2 => match sh.bind as kn ws with
      | some vs => if vs.length = ns.length then .ok (.exc C ns vs) S2 else .bad
      | none => .bad
    | some (.inr (g, d)) => (evs es L S).bind fun as S1 => (evs ks L S1).bind fun ws S2 => match d.shp.bind (.ref S2.length :: as) kn ws with
      | some vs => (R g vs (S2 ++ [.ins C []])).bind fun r S3 => match r with
        | .non => .ok (.ref S2.length) S3
        | _ => .bad
      | none => .bad
    | none => .bad
  | .blt f es, L, S => (evs es L S).bind fun as S1 => bltD f S1 as
  | .isi a cs, L, S => (evE a L S).bind fun x S1 => lift S1 ((isiD T S1 x cs).map .bl)
  | .attr a f, L, S => (evE a L S).bind fun x S1 => match propD T S1 x f with
    | some g => match T.fn.lookup g with
      | some d => match d.shp.bind [x] [] [] with
        | some vs => match R g vs S1 with
          | .ok d S2 => .ok d S2
          | _ => .bad
        | none => .bad
      | none => .bad
    | none => lift S1 (attrD T S1 x f)
  | .comp e tg it c own, L, S => (evI it L S).bind fun v S1 =>
      compL v tg S1.length (fun L S => (evT c L S)) (fun L S => evE e L S) (v.size S1 + 1) 0 (wipeL L own) (S1 ++ [.lst []])
def evs : Xs → Loc → Sto → Out (List D)
  | .nil, _, S => .ok [] S
  | .cons e es, L, S => (evE e L S).bind fun d S1 => (evs es L S1).bind fun ds S2 => .ok (d :: ds) S2
/-- all tests -/
def evT : Xs → Loc → Sto → Out Bool
  | .nil, _, S => .ok true S
  | .cons e _, L, S => (evE e L S).bind fun d S1 => lift S1 (truthy S1 d)
def evO : Ox → Loc → Sto → Out (Option Int)
  | .no, _, S => .ok none S
  | .so e, L, S => (evE e L S).bind fun d S1 => match d with
    | .int i => .ok (some i) S1
    | _ => .bad
def evI : Itx → Loc → Sto → Out Itv
  | .seq e, L, S => (evE e L S).bind fun d S1 => match d with
    | .tup ds => .ok (.fix ds) S1
    | .str x => .ok (.fix (x.cps.toList.map fun c => .str ⟨#[c]⟩)) S1
    | .ref r => match lstAt S1 r with
      | some _ => .ok (.lst r) S1
      | none => .bad
    | _ => .bad
  | .rng1 a, L, S => (evE a L S).bind fun d S1 => match d with
    | .int j => if rngOk 0 j then .ok (.fix (rngD 0 j)) S1 else .bad
    | _ => .bad
  | .rng2 a b, L, S => (evE a L S).bind fun d S1 => (evE b L S1).bind fun e S2 => match d, e with
    | .int i, .int j => if rngOk i j then .ok (.fix (rngD i j)) S2 else .bad
    | _, _ => .bad
  | .enm _, _, _ => .bad
  | .enl e, L, S => (evE e L S).bind fun d S1 => match d with
    | .ref r => match lstAt S1 r with
      | some _ => .ok (.enl r) S1
      | none => .bad
    | _ => .bad
  | .zip a b, L, S => (evE a L S).bind fun d S1 => (evE b L S1).bind fun e S2 => match d, e with
    | .ref r, .ref q => match lstAt S2 r, lstAt S2 q with
      | some _, some _ => .ok (.zipl r q) S2
      | _, _ => .bad
    | _, _ => .bad
end
/-! ### statements -/
inductive SOut where
  | nx (L : Loc) (S : Sto) | rt (d : D) (S : Sto) | bk (L : Loc) (S : Sto) | ct (L : Loc) (S : Sto) | exc (L : Loc) (e : D) (S : Sto) | bad
def Out.toS {α : Type} (o : Out α) (L : Loc) (f : α → Sto → SOut) : SOut :=
  match o with
  | .ok a S => f a S
  | .exc e S => .exc L e S
  | .bad => .bad
@[simp] theorem Out.ok_toS {α : Type} (a : α) (S : Sto) (L : Loc) (f : α → Sto → SOut) : (Out.ok a S).toS L f = f a S := rfl
@[simp] theorem Out.exc_toS {α : Type} (e : D) (S : Sto) (L : Loc) (f : α → Sto → SOut) : (Out.exc e S : Out α).toS L f = .exc L e S := rfl
@[simp] theorem Out.bad_toS {α : Type} (L : Loc) (f : α → Sto → SOut) : (Out.bad : Out α).toS L f = .bad := rfl
def SOut.then (o : SOut) (f : Loc → Sto → SOut) : SOut :=
  match o with
  | .nx L S => f L S
  | o => o
/-- a loop's turn: on by g, a break by h -/
def SOut.turn (o : SOut) (g : Loc → Sto → SOut) : SOut :=
  match o with
  | .nx L S => g L S
  | .ct L S => g L S
  | .bk L S => .nx L S
  | o => o
def whlL (c : Loc → Sto → Out Bool) (b : Loc → Sto → SOut) : Nat → Loc → Sto → SOut
  | 0, _, _ => .bad
  | n + 1, L, S => (c L S).toS L fun k S1 => if k = true then (b L S1).turn fun L2 S2 => whlL c b n L2 S2 else .nx L S1
def forL (v : Itv) (tg : Tg) (b : Loc → Sto → SOut) : Nat → Nat → Loc → Sto → SOut
  | 0, _, _, _ => .bad
  | n + 1, k, L, S => match v.at S k with
    | none => .bad
    | some none => .nx L S
    | some (some d) => match setTg tg d L with
      | none => .bad
      | some L1 => (b L1 S).turn fun L2 S2 => forL v tg b n (k + 1) L2 S2
def setAll : List Nat → List D → Loc → Option Loc
  | [], [], L => some L
  | i :: is, d :: ds, L => setAll is ds (L.set i (some d))
  | _, _, _ => none
variable (fu : Nat)
mutual
def evS : S → Loc → Sto → SOut
  | .exp e, L, S => (evE T R e L S).toS L fun _ S1 => .nx L S1
  | .set i e, L, S => (evE T R e L S).toS L fun d S1 => .nx (L.set i (some d)) S1
  | .unpack g e, L, S => (evE T R e L S).toS L fun d S1 => match setTg g d L with
    | some L1 => .nx L1 S1
    | none => .bad
  | .setat o f e, L, S => (evE T R e L S).toS L fun d S1 => (evE T R o L S1).toS L fun a S2 => match setatD T S2 a f d with
    | some S3 => .nx L S3
    | none => .bad
  | .setix o i e, L, S => (evE T R e L S).toS L fun d S1 => (evE T R o L S1).toS L fun a S2 => (evE T R i L S2).toS L fun k S3 => match setixD S3 a k d with
    | some S4 => .nx L S4
    | none => .bad
  | .ret e, L, S => (evE T R e L S).toS L fun d S1 => .rt d S1
  | .retN, _, S => .rt .non S
  | .raise e, L, S => (evE T R e L S).toS L fun d S1 => .exc L d S1
  | .brk, L, S => .bk L S
  | .cont, L, S => .ct L S
  | .pass, L, S => .nx L S
  | .ite c a b, L, S => (evE T R c L S).toS L fun x S1 => (lift S1 (truthy S1 x)).toS L fun k S1 => if k = true then evSs a L S1 else evSs b L S1
  | .whl c b, L, S => whlL (fun L S => (evE T R c L S).bind fun x S1 => lift S1 (truthy S1 x)) (fun L S => evSs b L S) fu L S
  | .for_ tg it b, L, S => (evI T R it L S).toS L fun v S1 => forL v tg (fun L S => evSs b L S) (v.size S1 + 1) 0 L S1
def evSs : Ss → Loc → Sto → SOut
  | .nil, L, S => .nx L S
  | .cons s r, L, S => (evS s L S).then fun L1 S1 => evSs r L1 S1
end
end
/-- a def's run -/
def SOut.fin (o : SOut) : Out D :=
  match o with
  | .nx _ S => .ok .non S
  | .rt d S => .ok d S
  | .exc _ e S => .exc e S
  | _ => .bad
def startL (n : Nat) (vs : List D) : Loc := vs.map some ++ List.replicate (n - vs.length) none
def run (T : Tab) (fu : Nat) : Nat → Str → List D → Sto → Out D
  | 0, _, _, _ => .bad
  | n + 1, f, vs, S => match T.fn.lookup f with
    | some d => if vs.length = d.ps.length then (evSs T (run T fu n) fu d.body (startL d.n vs) S).fin else .bad
    | none => .bad
end Am
/-! Am1: how the machine's state stands in the abstract heap; readings. -/
namespace Am
open PySem PySem.Spec PyProof.Rows L2
abbrev HSt := L2.St
/-- what never changes -/
def Imm : HO → Prop
  | .tup _ => True
  | .frz _ _ => True
  | .xd _ => True
  | _ => False
def Keep (H H' : Hp) : Prop := ∀ a o, Imm o → H a = some o → H' a = some o
theorem Keep.refl (H : Hp) : Keep H H := fun _ _ _ h => h
theorem Keep.trans {H H1 H2 : Hp} (a : Keep H H1) (b : Keep H1 H2) : Keep H H2 := fun x o i h => b x o i (a x o i h)
theorem Keep.new {H : Hp} {p : Addr} {o : HO} (h : H p = none) : Keep H (upd H p o) := fun a u _ e => by
  rw [upd_ne (ne_of_none e h)]
  exact e
theorem Keep.write {H : Hp} {p : Addr} {o o' : HO} (h : H p = some o) (m : ¬ Imm o) : Keep H (upd H p o') := fun a u i e => by
  by_cases z : a = p
  · rw [z, h] at e
    cases e
    exact absurd i m
  · rw [upd_ne z]
    exact e
section
variable (K : PySem.W.Frag) (CA : Str → Option Addr)
theorem Keep.rd {H H' : Hp} {a : Addr} {xs : List V} (k : Keep H H') (h : Rd H a (.tup xs)) : Rd H' a (.tup xs) := by
  rcases h with h | ⟨o, h⟩
  · exact .inl (k _ _ trivial h)
  · exact .inr ⟨o, k _ _ trivial h⟩
theorem Keep.tup {K : PySem.W.Frag} {H H' : Hp} {a : Addr} {xs : List V} (k : Keep H H') (h : SqT K H a xs) : SqT K H' a xs := by
  rcases h with h | h
  · exact .inl (k.rd h)
  · exact .inr h
mutual
/-- a value as it stands -/
def RD (ρ : List Addr) (H : Hp) : D → V → Prop
  | .non, v => v = .non
  | .bl b, v => v = .bl b
  | .int i, v => v = .int i
  | .str x, v => v = .str x
  | .tup ds, v => ∃ a xs, v = .ref a ∧ SqT K H a xs ∧ RDs ρ H ds xs
  | .ref i, v => ∃ a, ρ[i]? = some a ∧ v = .ref a
  | .exc C ns ds, v => ∃ (a c : Addr) (oe : Obj) (u : HO), v = .ref a ∧ CA C = some c ∧ H a = some (.frz oe u) ∧ oe.cls = .ref c ∧ (∃ fv, oe.data = .fields fv) ∧
    ((ns = [] ∧ ds = [] ∧ oe.dict = none) ∨ ∃ (dx : Addr) (xs : List V), oe.dict = some dx ∧ H dx = some (.xd (ns.zip xs)) ∧ ns.length = xs.length ∧ RDs ρ H ds xs)
def RDs (ρ : List Addr) (H : Hp) : List D → List V → Prop
  | [], vs => vs = []
  | d :: ds, vs => ∃ v r, vs = v :: r ∧ RD ρ H d v ∧ RDs ρ H ds r
end
/-- a dict's entries -/
def RK (ρ : List Addr) (H : Hp) : List (D × D) → List (L2.Key × V) → Prop
  | [], l => l = []
  | p :: r, l => ∃ k v s, l = (k, v) :: s ∧ keyD p.1 = some k ∧ RD K CA ρ H p.2 v ∧ RK ρ H r s
def RF (ρ : List Addr) (H : Hp) : Flds → List (Str × V) → Prop
  | [], l => l = []
  | p :: r, l => ∃ v s, l = (p.1, v) :: s ∧ RD K CA ρ H p.2 v ∧ RF ρ H r s
/-- an object of the store as it stands -/
def RO (ρ : List Addr) (H : Hp) (a : Addr) : MO → Prop
  | .lst ds => ∃ xs, H a = some (.lst xs) ∧ RDs K CA ρ H ds xs
  | .ro ds => ∃ xs, (∃ o, H a = some (.frz o (.lst xs))) ∧ RDs K CA ρ H ds xs
  | .dic kvs => ∃ l, H a = some (.dK l) ∧ RK K CA ρ H kvs l
  | .ins C fs => ∃ c dx l, CA C = some c ∧ H a = some (.ins c dx l) ∧ RF K CA ρ H fs l
structure Rep (ρ : List Addr) (H : Hp) (S : Sto) : Prop where
  len : ρ.length = S.length
  inj : ∀ (i j : Nat) a, ρ[i]? = some a → ρ[j]? = some a → i = j
  obj : ∀ (i : Nat) a o, ρ[i]? = some a → S[i]? = some o → RO K CA ρ H a o
def RL (ρ : List Addr) (H : Hp) (σ : HSt) (L : Loc) : Prop :=
  L.length = σ.length ∧ ∀ (i : Nat) d, L[i]? = some (some d) → ∃ v, σ[i]? = some (some v) ∧ RD K CA ρ H d v
/-- places stay, what never changes stays -/
structure Grow (ρ : List Addr) (H : Hp) (ρ' : List Addr) (H' : Hp) : Prop where
  at_ : ∀ (i : Nat) a, ρ[i]? = some a → ρ'[i]? = some a
  keep : Keep H H'
end
section
variable {K : PySem.W.Frag} {CA : Str → Option Addr} {ρ ρ' ρ1 ρ2 : List Addr} {H H' H1 H2 : Hp}
theorem Grow.refl (ρ : List Addr) (H : Hp) : Grow ρ H ρ H := ⟨fun _ _ h => h, .refl H⟩
theorem Grow.trans (a : Grow ρ H ρ1 H1) (b : Grow ρ1 H1 ρ2 H2) : Grow ρ H ρ2 H2 := ⟨fun i x h => b.at_ i x (a.at_ i x h), a.keep.trans b.keep⟩
mutual
theorem RD.grow (g : Grow ρ H ρ' H') : ∀ (d : D) (v : V), RD K CA ρ H d v → RD K CA ρ' H' d v
  | .non, _, h => h
  | .bl _, _, h => h
  | .int _, _, h => h
  | .str _, _, h => h
  | .tup ds, v, h => by
    simp only [RD] at h ⊢
    obtain ⟨a, xs, e, t, r⟩ := h
    exact ⟨a, xs, e, g.keep.tup t, RDs.grow g ds xs r⟩
  | .ref i, v, h => by
    simp only [RD] at h ⊢
    obtain ⟨a, e, h⟩ := h
    exact ⟨a, g.at_ i a e, h⟩
  | .exc C ns ds, v, h => by
    simp only [RD] at h ⊢
    obtain ⟨a, c, oe, u, e, hc, ha, o1, o3, h⟩ := h
    refine ⟨a, c, oe, u, e, hc, g.keep _ _ trivial ha, o1, o3, ?_⟩
    rcases h with h | ⟨dx, xs, o2, hd, hl, r⟩
    · exact .inl h
    · exact .inr ⟨dx, xs, o2, g.keep _ _ trivial hd, hl, RDs.grow g ds xs r⟩
theorem RDs.grow (g : Grow ρ H ρ' H') : ∀ (ds : List D) (vs : List V), RDs K CA ρ H ds vs → RDs K CA ρ' H' ds vs
  | [], _, h => h
  | d :: ds, vs, h => by
    simp only [RDs] at h ⊢
    obtain ⟨v, r, e, h1, h2⟩ := h
    exact ⟨v, r, e, RD.grow g d v h1, RDs.grow g ds r h2⟩
end
theorem RF.grow (g : Grow ρ H ρ' H') : ∀ (fs : Flds) (l : List (Str × V)), RF K CA ρ H fs l → RF K CA ρ' H' fs l
  | [], _, h => h
  | p :: r, l, h => by
    obtain ⟨v, s, e, h1, h2⟩ := h
    exact ⟨v, s, e, RD.grow g p.2 v h1, RF.grow g r s h2⟩
theorem RK.grow (g : Grow ρ H ρ' H') : ∀ (fs : List (D × D)) (l : List (L2.Key × V)), RK K CA ρ H fs l → RK K CA ρ' H' fs l
  | [], _, h => h
  | p :: r, l, h => by
    obtain ⟨k, v, s, e, h0, h1, h2⟩ := h
    exact ⟨k, v, s, e, h0, RD.grow g p.2 v h1, RK.grow g r s h2⟩
theorem RL.grow {σ : HSt} {L : Loc} (g : Grow ρ H ρ' H') (h : RL K CA ρ H σ L) : RL K CA ρ' H' σ L :=
  ⟨h.1, fun i d e => let ⟨v, e1, r⟩ := h.2 i d e; ⟨v, e1, RD.grow g d v r⟩⟩
theorem RDs.length : ∀ {ds : List D} {vs : List V}, RDs K CA ρ H ds vs → ds.length = vs.length
  | [], vs, h => by simp only [RDs] at h; subst h; rfl
  | d :: ds, vs, h => by
    simp only [RDs] at h
    obtain ⟨v, r, rfl, _, h2⟩ := h
    simp [RDs.length h2]
theorem RDs.get : ∀ {ds : List D} {vs : List V} {i : Nat} {d : D}, RDs K CA ρ H ds vs → ds[i]? = some d → ∃ v, vs[i]? = some v ∧ RD K CA ρ H d v
  | [], _, _, _, _, e => by simp at e
  | d :: ds, vs, 0, x, h, e => by
    simp only [RDs] at h
    obtain ⟨v, r, rfl, h1, _⟩ := h
    simp at e
    subst e
    exact ⟨v, by simp, h1⟩
  | d :: ds, vs, i + 1, x, h, e => by
    simp only [RDs] at h
    obtain ⟨v, r, rfl, _, h2⟩ := h
    obtain ⟨y, e1, h3⟩ := RDs.get (i := i) h2 (by simpa using e)
    exact ⟨y, by simpa using e1, h3⟩
theorem RDs.cons {d : D} {ds : List D} {v : V} {vs : List V} (h : RD K CA ρ H d v) (r : RDs K CA ρ H ds vs) : RDs K CA ρ H (d :: ds) (v :: vs) := by
  simp only [RDs]
  exact ⟨v, vs, rfl, h, r⟩
theorem RDs.nil : RDs K CA ρ H [] [] := by simp only [RDs]
theorem RDs.append : ∀ {xs : List D} {vs : List V} {ys : List D} {ws : List V}, RDs K CA ρ H xs vs → RDs K CA ρ H ys ws → RDs K CA ρ H (xs ++ ys) (vs ++ ws)
  | [], vs, _, _, h, q => by simp only [RDs] at h; subst h; exact q
  | d :: ds, vs, _, _, h, q => by
    simp only [RDs] at h
    obtain ⟨v, r, rfl, h1, h2⟩ := h
    exact .cons h1 (RDs.append h2 q)
theorem RDs.drop : ∀ {xs : List D} {vs : List V} (n : Nat), RDs K CA ρ H xs vs → RDs K CA ρ H (xs.drop n) (vs.drop n)
  | _, _, 0, h => h
  | [], vs, n + 1, h => by simp only [RDs] at h; subst h; exact .nil
  | d :: ds, vs, n + 1, h => by
    simp only [RDs] at h
    obtain ⟨v, r, rfl, h1, h2⟩ := h
    exact RDs.drop n h2
theorem RDs.take : ∀ {xs : List D} {vs : List V} (n : Nat), RDs K CA ρ H xs vs → RDs K CA ρ H (xs.take n) (vs.take n)
  | _, _, 0, h => .nil
  | [], vs, n + 1, h => by simp only [RDs] at h; subst h; exact .nil
  | d :: ds, vs, n + 1, h => by
    simp only [RDs] at h
    obtain ⟨v, r, rfl, h1, h2⟩ := h
    exact .cons h1 (RDs.take n h2)
theorem RDs.set {d : D} {v : V} (r : RD K CA ρ H d v) : ∀ {xs : List D} {vs : List V} (i : Nat), RDs K CA ρ H xs vs → RDs K CA ρ H (xs.set i d) (vs.set i v)
  | [], vs, _, h => by simp only [RDs] at h; subst h; exact .nil
  | x :: xs, vs, 0, h => by
    simp only [RDs] at h
    obtain ⟨w, q, rfl, h1, h2⟩ := h
    exact .cons r h2
  | x :: xs, vs, i + 1, h => by
    simp only [RDs] at h
    obtain ⟨w, q, rfl, h1, h2⟩ := h
    exact .cons h1 (RDs.set r i h2)
theorem RF.lookup {f : Str} : ∀ {fs : Flds} {l : List (Str × V)}, RF K CA ρ H fs l → ∀ {d : D}, fs.lookup f = some d → ∃ v, l.lookup f = some v ∧ RD K CA ρ H d v
  | [], _, _, d, e => by simp at e
  | p :: r, l, h, d, e => by
    obtain ⟨v, s, rfl, h1, h2⟩ := h
    by_cases z : f = p.1
    · subst z
      simp [List.lookup] at e ⊢
      subst e
      exact h1
    · have q : (f == p.1) = false := by simpa using z
      obtain ⟨k, y⟩ := p
      simp only [List.lookup, q] at e ⊢
      exact RF.lookup h2 e
theorem RF.put {f : Str} {d : D} {v : V} (hd : RD K CA ρ H d v) : ∀ {fs : Flds} {l : List (Str × V)}, RF K CA ρ H fs l → RF K CA ρ H (putD f d fs) (putF f v l)
  | [], l, h => by
    have : l = [] := h
    subst this
    exact ⟨v, [], rfl, hd, rfl⟩
  | p :: r, l, h => by
    obtain ⟨w, s, rfl, h1, h2⟩ := h
    unfold putD putF
    by_cases z : p.1 = f
    · rw [if_pos z, if_pos z]
      exact ⟨v, s, by rw [z], hd, h2⟩
    · rw [if_neg z, if_neg z]
      exact ⟨w, _, rfl, h1, RF.put hd h2⟩
theorem RF.length : ∀ {fs : Flds} {l : List (Str × V)}, RF K CA ρ H fs l → fs.length = l.length
  | [], l, h => by have : l = [] := h; subst this; rfl
  | p :: r, l, h => by
    obtain ⟨w, s, rfl, h1, h2⟩ := h
    simp [RF.length h2]
/-- an object moves to a heap in which it stands as it stood -/
theorem RO.grow {a : Addr} {o : MO} (g : Grow ρ H ρ' H') (e : H' a = H a) (h : RO K CA ρ H a o) : RO K CA ρ' H' a o := by
  cases o with
  | lst ds => obtain ⟨xs, h1, h2⟩ := h; exact ⟨xs, e.trans h1, RDs.grow g _ _ h2⟩
  | ro ds => obtain ⟨xs, ⟨o, h1⟩, h2⟩ := h; exact ⟨xs, ⟨o, e.trans h1⟩, RDs.grow g _ _ h2⟩
  | dic kvs => obtain ⟨l, h1, h2⟩ := h; exact ⟨l, e.trans h1, RK.grow g _ _ h2⟩
  | ins C fs => obtain ⟨c, dx, l, h0, h1, h2⟩ := h; exact ⟨c, dx, l, h0, e.trans h1, RF.grow g _ _ h2⟩
theorem RO.some {a : Addr} {o : MO} (h : RO K CA ρ H a o) : ∃ u, H a = some u := by
  cases o with
  | lst ds => obtain ⟨xs, h1, h2⟩ := h; exact ⟨_, h1⟩
  | ro ds => obtain ⟨xs, ⟨o, h1⟩, h2⟩ := h; exact ⟨_, h1⟩
  | dic kvs => obtain ⟨l, h1, h2⟩ := h; exact ⟨_, h1⟩
  | ins C fs => obtain ⟨c, dx, l, h0, h1, h2⟩ := h; exact ⟨_, h1⟩
theorem Rep.at_ {S : Sto} (r : Rep K CA ρ H S) {i : Nat} {o : MO} (e : S[i]? = some o) : ∃ a, ρ[i]? = some a ∧ RO K CA ρ H a o := by
  have hi : i < S.length := (List.getElem?_eq_some_iff.mp e).1
  have hi' : i < ρ.length := by rw [r.len]; exact hi
  exact ⟨ρ[i], by simp [hi'], r.obj i _ o (by simp [hi']) e⟩
theorem Rep.there {S : Sto} (r : Rep K CA ρ H S) {i : Nat} {a : Addr} (e : ρ[i]? = some a) : ∃ o, S[i]? = some o ∧ RO K CA ρ H a o := by
  have hi : i < ρ.length := (List.getElem?_eq_some_iff.mp e).1
  have hi' : i < S.length := by rw [← r.len]; exact hi
  exact ⟨S[i], by simp [hi'], r.obj i _ _ e (by simp [hi'])⟩
/-- the heap grows elsewhere: what is known stays -/
theorem Rep.grow {S : Sto} (r : Rep K CA ρ H S) (k : Keep H H') (e : ∀ (i : Nat) a, ρ[i]? = some a → H' a = H a) : Rep K CA ρ H' S :=
  ⟨r.len, r.inj, fun i a o h1 h2 => RO.grow ⟨fun _ _ h => h, k⟩ (e i a h1) (r.obj i a o h1 h2)⟩
theorem Rep.same {S : Sto} (r : Rep K CA ρ H S) (k : ∀ a o, H a = some o → H' a = some o) : Rep K CA ρ H' S :=
  r.grow (fun a o _ h => k a o h) fun i a h => by
    obtain ⟨o, _, ro⟩ := r.there h
    obtain ⟨u, hu⟩ := ro.some
    rw [hu, k a u hu]
theorem Rep.new_ {S : Sto} (r : Rep K CA ρ H S) {p : Addr} {o : HO} (h : H p = none) : Rep K CA ρ (upd H p o) S :=
  r.same fun a u e => by rw [upd_ne (ne_of_none e h)]; exact e
theorem Grow.new {p : Addr} {o : HO} (h : H p = none) : Grow ρ H ρ (upd H p o) := ⟨fun _ _ h => h, .new h⟩
/-- a new object of the store -/
theorem Grow.alloc {p : Addr} {o : HO} (h : H p = none) : Grow ρ H (ρ ++ [p]) (upd H p o) := ⟨fun i a e => by
    rw [List.getElem?_append_left (List.getElem?_eq_some_iff.mp e).1]
    exact e, .new h⟩
theorem Rep.alloc {S : Sto} (r : Rep K CA ρ H S) {p : Addr} {o : HO} {m : MO} (h : H p = none) (hm : RO K CA (ρ ++ [p]) (upd H p o) p m) : Rep K CA (ρ ++ [p]) (upd H p o) (S ++ [m]) := by
  have np : ∀ (i : Nat), ρ[i]? ≠ some p := fun i e => by
    obtain ⟨o, _, ro⟩ := r.there e
    obtain ⟨u, hu⟩ := ro.some
    rw [h] at hu
    cases hu
  have cs : ∀ (i : Nat) a, (ρ ++ [p])[i]? = some a → (i < ρ.length ∧ ρ[i]? = some a) ∨ (i = ρ.length ∧ a = p) := fun i a e => by
    by_cases hi : i < ρ.length
    · rw [List.getElem?_append_left hi] at e
      exact .inl ⟨hi, e⟩
    · rw [List.getElem?_append_right (by omega)] at e
      have hz : i - ρ.length = 0 := by
        cases q : i - ρ.length with
        | zero => rfl
        | succ n => rw [q] at e; simp at e
      rw [hz] at e
      simp at e
      exact .inr ⟨by omega, e.symm⟩
  refine ⟨by simp [r.len], fun i j a e1 e2 => ?_, fun i a o e1 e2 => ?_⟩
  · rcases cs i a e1 with ⟨_, h1⟩ | ⟨h1, h1'⟩ <;> rcases cs j a e2 with ⟨_, h2⟩ | ⟨h2, h2'⟩
    · exact r.inj i j a h1 h2
    · exact absurd (h2' ▸ h1) (np i)
    · exact absurd (h1' ▸ h2) (np j)
    · omega
  · rcases cs i a e1 with ⟨hi, h1⟩ | ⟨h1, h1'⟩
    · rw [List.getElem?_append_left (by rw [← r.len]; exact hi)] at e2
      have q := r.obj i a o h1 e2
      obtain ⟨u, hu⟩ := q.some
      exact RO.grow (.alloc h) (upd_ne (ne_of_none hu h)) q
    · subst h1'
      rw [List.getElem?_append_right (by rw [← r.len]; omega), h1, r.len] at e2
      simp at e2
      subst e2
      exact hm
/-- a store at one place -/
theorem Rep.put {S : Sto} (r : Rep K CA ρ H S) {i : Nat} {a : Addr} {o o' : HO} {m : MO} (ha : ρ[i]? = some a) (ho : H a = some o) (ni : ¬ Imm o) (hm : RO K CA ρ (upd H a o') a m) : Rep K CA ρ (upd H a o') (S.set i m) := by
  refine ⟨by simp [r.len], r.inj, fun j b u e1 e2 => ?_⟩
  by_cases hij : i = j
  · subst hij
    rw [ha] at e1
    cases e1
    have hi : i < S.length := by rw [← r.len]; exact (List.getElem?_eq_some_iff.mp ha).1
    rw [List.getElem?_set_self hi] at e2
    cases e2
    exact hm
  · rw [List.getElem?_set_ne hij] at e2
    have nb : b ≠ a := fun z => hij (r.inj i j a ha (z ▸ e1))
    exact RO.grow ⟨fun _ _ h => h, .write ho ni⟩ (upd_ne nb) (r.obj j b u e1 e2)
theorem Grow.write {a : Addr} {o o' : HO} (h : H a = some o) (ni : ¬ Imm o) : Grow ρ H ρ (upd H a o') := ⟨fun _ _ h => h, .write h ni⟩
end
/-! ### readings -/
section
variable (K : PySem.W.Frag) (CA : Str → Option Addr) (W : WX)
/-- an exception that flies -/
def RX (ρ : List Addr) (H : Hp) : D → Value → Option Addr → Prop
  | .exc C ns ds, c, dd => ∃ ca, CA C = some ca ∧ c = .ref ca ∧ ((ns = [] ∧ dd = none) ∨ ∃ dx xs, dd = some dx ∧ H dx = some (.xd (ns.zip xs)) ∧ ns.length = xs.length ∧ RDs K CA ρ H ds xs)
  | _, _, _ => False
def Flies (ρ : List Addr) (H : Hp) (σ : HSt) (e : D) (S' : Sto) : Prop :=
  ∀ ρ' H' c dd, Grow ρ H ρ' H' → Rep K CA ρ' H' S' → RX K CA ρ' H' e c dd → W c dd σ H'
def Good {α β : Type} (P : List Addr → Hp → α → β → Prop) (o : Out α) (ρ : List Addr) (σ : HSt) (H : Hp) (Q : β → Hp → Prop) : Prop :=
  match o with
  | .ok d S' => ∀ ρ' v H', Grow ρ H ρ' H' → Rep K CA ρ' H' S' → P ρ' H' d v → Q v H'
  | .exc e S' => Flies K CA W ρ H σ e S'
  | .bad => False
def PD : List Addr → Hp → D → V → Prop := fun ρ H d v => RD K CA ρ H d v
def PB : List Addr → Hp → Bool → Bool → Prop := fun _ _ a b => b = a
def PDs : List Addr → Hp → List D → List V → Prop := fun ρ H ds vs => RDs K CA ρ H ds vs
def PO_ : List Addr → Hp → Option Int → Option Int → Prop := fun _ _ a b => b = a
def tM {α β : Type} (P : List Addr → Hp → α → β → Prop) (m : Loc → Sto → Out α) : HSt → Hp → (β → Hp → Prop) → Prop := fun σ H Q =>
  ∃ ρ L S, Rep K CA ρ H S ∧ RL K CA ρ H σ L ∧ Good K CA W P (m L S) ρ σ H Q
end
section
variable {K : PySem.W.Frag} {CA : Str → Option Addr} {W : WX} {ρ ρ' : List Addr} {H H' : Hp} {σ : HSt}
theorem Flies.grow {e : D} {S' : Sto} (g : Grow ρ H ρ' H') (h : Flies K CA W ρ H σ e S') : Flies K CA W ρ' H' σ e S' := fun ρ2 H2 c dd g2 r x => h ρ2 H2 c dd (g.trans g2) r x
theorem Good.grow {α β : Type} {P : List Addr → Hp → α → β → Prop} {o : Out α} {Q : β → Hp → Prop} (g : Grow ρ H ρ' H') (h : Good K CA W P o ρ σ H Q) : Good K CA W P o ρ' σ H' Q := by
  cases o with
  | ok d S' => exact fun ρ2 v H2 g2 r x => h ρ2 v H2 (g.trans g2) r x
  | exc e S' => exact Flies.grow g h
  | bad => exact h
/-- two steps in a row -/
theorem Good.bind {α β γ δ : Type} {P : List Addr → Hp → α → γ → Prop} {P' : List Addr → Hp → β → δ → Prop} {o : Out α} {f : α → Sto → Out β} {Q : δ → Hp → Prop} (h : Good K CA W P' (o.bind f) ρ σ H Q) :
    Good K CA W P o ρ σ H fun v H1 => ∃ ρ1 d S1, Grow ρ H ρ1 H1 ∧ Rep K CA ρ1 H1 S1 ∧ P ρ1 H1 d v ∧ Good K CA W P' (f d S1) ρ1 σ H1 Q := by
  cases o with
  | ok d S' => exact fun ρ1 v H1 g r x => ⟨ρ1, d, S', g, r, x, Good.grow g h⟩
  | exc e S' => exact h
  | bad => exact h
theorem Good.imp {α β : Type} {P : List Addr → Hp → α → β → Prop} {o : Out α} {Q Q' : β → Hp → Prop} (h : Good K CA W P o ρ σ H Q) (q : ∀ v H', Q v H' → Q' v H') : Good K CA W P o ρ σ H Q' := by
  cases o with
  | ok d S' => exact fun ρ1 v H1 g r x => q v H1 (h ρ1 v H1 g r x)
  | exc e S' => exact h
  | bad => exact h
theorem Good.ok {α β : Type} {P : List Addr → Hp → α → β → Prop} {d : α} {S : Sto} {v : β} {Q : β → Hp → Prop} (h : Good K CA W P (.ok d S) ρ σ H Q) (r : Rep K CA ρ H S) (p : P ρ H d v) : Q v H := h ρ v H (.refl _ _) r p
end
end Am
set_option maxHeartbeats 1000000
/-! Am2: operators, comparisons, subscripts, slices, built-in calls, truth. -/
namespace Am
open PySem PySem.Spec PyProof.Rows L2
/-- room for calls; no repr runs -/
structure Rm (k : Nat) (A : Around) : Prop where
  room : Room k A
  gd : A.guards = some []
theorem Rm.mono {j k : Nat} {A : Around} (r : Rm k A) (h : j ≤ k) : Rm j A := ⟨r.room.mono h, r.gd⟩
section
variable {K : PySem.W.Frag} {CA : Str → Option Addr} {ρ : List Addr} {H : Hp} {S : Sto}
theorem lim_eq : lim = sizeLine := by rw [sizeLine_eq]; rfl
/-! ### as data -/
theorem Rep.list (r : Rep K CA ρ H S) {i : Nat} {ds : List D} (e : lstAt S i = some ds) : ∃ a xs, ρ[i]? = some a ∧ SqL K H a xs ∧ RDs K CA ρ H ds xs := by
  unfold lstAt at e
  cases h : S[i]? with
  | none => rw [h] at e; cases e
  | some o =>
    rw [h] at e
    obtain ⟨a, ha, ro⟩ := r.at_ h
    cases o with
    | lst es => cases e; obtain ⟨xs, h1, h2⟩ := ro; exact ⟨a, xs, ha, SqL.of h1, h2⟩
    | ro es => cases e; obtain ⟨xs, ⟨o, h1⟩, h2⟩ := ro; exact ⟨a, xs, ha, .inl (.inr ⟨o, h1⟩), h2⟩
    | dic _ => cases e
    | ins _ _ => cases e
theorem Rep.wlist (r : Rep K CA ρ H S) {i : Nat} {ds : List D} (e : wlstAt S i = some ds) : ∃ a xs, ρ[i]? = some a ∧ H a = some (.lst xs) ∧ RDs K CA ρ H ds xs := by
  unfold wlstAt at e
  cases h : S[i]? with
  | none => rw [h] at e; cases e
  | some o =>
    rw [h] at e
    obtain ⟨a, ha, ro⟩ := r.at_ h
    cases o with
    | lst es => cases e; obtain ⟨xs, h1, h2⟩ := ro; exact ⟨a, xs, ha, h1, h2⟩
    | ro es => cases e
    | dic _ => cases e
    | ins _ _ => cases e
theorem lst_of_wlst {i : Nat} {ds : List D} (e : wlstAt S i = some ds) : lstAt S i = some ds := by
  unfold wlstAt at e
  unfold lstAt
  cases h : S[i]? with
  | none => rw [h] at e; cases e
  | some o =>
    rw [h] at e
    cases o <;> first | exact e | cases e
theorem RD.ref {i : Nat} {v : V} (h : RD K CA ρ H (.ref i) v) : ∃ a, ρ[i]? = some a ∧ v = .ref a := by simpa only [RD] using h
theorem Rep.list_v (r : Rep K CA ρ H S) {i : Nat} {ds : List D} {v : V} (h : RD K CA ρ H (.ref i) v) (e : lstAt S i = some ds) : ∃ a xs, v = .ref a ∧ SqL K H a xs ∧ RDs K CA ρ H ds xs := by
  obtain ⟨a, ha, rfl⟩ := h.ref
  obtain ⟨b, xs, hb, h1, h2⟩ := r.list e
  rw [ha] at hb
  cases hb
  exact ⟨a, xs, rfl, h1, h2⟩
theorem Rep.wlist_v (r : Rep K CA ρ H S) {i : Nat} {ds : List D} {v : V} (h : RD K CA ρ H (.ref i) v) (e : wlstAt S i = some ds) : ∃ a xs, v = .ref a ∧ ρ[i]? = some a ∧ H a = some (.lst xs) ∧ RDs K CA ρ H ds xs := by
  obtain ⟨a, ha, rfl⟩ := h.ref
  obtain ⟨b, xs, hb, h1, h2⟩ := r.wlist e
  rw [ha] at hb
  cases hb
  exact ⟨a, xs, rfl, ha, h1, h2⟩
theorem mapM_nil {α β : Type} (f : α → Option β) : ([] : List α).mapM f = some [] := rfl
theorem mapM_cons {α β : Type} (f : α → Option β) (a : α) (l : List α) {r : List β} (h : (a :: l).mapM f = some r) : ∃ b bs, f a = some b ∧ l.mapM f = some bs ∧ r = b :: bs := by
  rw [List.mapM_cons] at h
  cases h1 : f a with
  | none => rw [h1] at h; cases h
  | some b =>
    rw [h1] at h
    cases h2 : l.mapM f with
    | none =>
      rw [h2] at h
      cases h
    | some bs =>
      rw [h2] at h
      exact ⟨b, bs, rfl, rfl, (Option.some.inj h).symm⟩
theorem dp_of (r : Rep K CA ρ H S) : ∀ (n : Nat) (d : D) (p : PyData) (v : V), pd n S d = some p → RD K CA ρ H d v → Dp K H v p
  | n, .non, p, v, e, h => by cases n <;> (simp only [pd] at e; cases e; simp only [RD] at h; subst h; exact .non)
  | n, .bl b, p, v, e, h => by cases n <;> (simp only [pd] at e; cases e; simp only [RD] at h; subst h; exact .bl b)
  | n, .int i, p, v, e, h => by cases n <;> (simp only [pd] at e; cases e; simp only [RD] at h; subst h; exact .int i)
  | n, .str x, p, v, e, h => by cases n <;> (simp only [pd] at e; cases e; simp only [RD] at h; subst h; exact .str x)
  | n, .exc _ _ _, p, v, e, h => by cases n <;> (simp only [pd] at e; cases e)
  | 0, .tup _, p, v, e, h => by simp only [pd] at e; cases e
  | 0, .ref _, p, v, e, h => by simp only [pd] at e; cases e
  | n + 1, .tup ds, p, v, e, h => by
    simp only [pd] at e
    cases q : ds.mapM (pd n S) with
    | none => rw [q] at e; cases e
    | some ps =>
      rw [q] at e
      cases e
      simp only [RD] at h
      obtain ⟨a, xs, rfl, hs, hr⟩ := h
      exact .tup hs (dps r n ds ps xs q hr)
  | n + 1, .ref i, p, v, e, h => by
    simp only [pd] at e
    cases q0 : lstAt S i with
    | none => rw [q0] at e; cases e
    | some ds =>
      rw [q0] at e
      cases q : ds.mapM (pd n S) with
      | none => simp only [q] at e; cases e
      | some ps =>
        simp only [q] at e
        cases e
        obtain ⟨a, xs, rfl, hs, hr⟩ := r.list_v h q0
        exact .lst hs (dps r n ds ps xs q hr)
where
  dps (r : Rep K CA ρ H S) (n : Nat) : ∀ (ds : List D) (ps : List PyData) (xs : List V), ds.mapM (pd n S) = some ps → RDs K CA ρ H ds xs → DpAll K H xs ps
    | [], ps, xs, e, h => by
      simp only [RDs] at h
      subst h
      cases e
      exact .nil
    | d :: ds, ps, xs, e, h => by
      obtain ⟨b, bs, e1, e2, rfl⟩ := mapM_cons _ _ _ e
      simp only [RDs] at h
      obtain ⟨v, q, rfl, h1, h2⟩ := h
      exact .cons (dp_of r n d b v e1 h1) (dps r n ds bs q e2 h2)
end
/-! ### operators by the machine's functions -/
section
variable {X : Cx} {CA : Str → Option Addr}
/-- what a two-place function asks -/
def rG (K : PySem.W.Frag) (CA : Str → Option Addr) (f : Sto → D → D → Out D) : R2 := fun x y H Q =>
  ∃ ρ S a b W σ, Rep K CA ρ H S ∧ RD K CA ρ H a x ∧ RD K CA ρ H b y ∧ Good K CA W (PD K CA) (f S a b) ρ σ H Q
theorem good_ok {K : PySem.W.Frag} {W : WX} {ρ : List Addr} {σ : HSt} {H : Hp} {Q : VK} {d : D} {S : Sto} {v : V} (h : Good K CA W (PD K CA) (.ok d S) ρ σ H Q) (r : Rep K CA ρ H S) (p : RD K CA ρ H d v) : Q v H := h ρ v H (.refl _ _) r p
/-- a new tuple -/
theorem good_tup {K : PySem.W.Frag} {W : WX} {ρ : List Addr} {σ : HSt} {H : Hp} {Q : VK} {ds : List D} {S : Sto} {xs : List V} {p : Addr} (h : Good K CA W (PD K CA) (.ok (.tup ds) S) ρ σ H Q) (r : Rep K CA ρ H S) (q : RDs K CA ρ H ds xs) (hp : H p = none) :
    Q (.ref p) (upd H p (.tup xs)) := by
  refine h ρ (.ref p) _ (.new hp) (r.new_ hp) ?_
  show RD K CA ρ _ (.tup ds) (.ref p)
  simp only [RD]
  exact ⟨p, xs, rfl, SqT.of upd_same, RDs.grow (.new hp) _ _ q⟩
/-- a new list -/
theorem good_lst {K : PySem.W.Frag} {W : WX} {ρ : List Addr} {σ : HSt} {H : Hp} {Q : VK} {ds : List D} {S : Sto} {xs : List V} {p : Addr} (h : Good K CA W (PD K CA) (.ok (.ref S.length) (S ++ [.lst ds])) ρ σ H Q) (r : Rep K CA ρ H S) (q : RDs K CA ρ H ds xs) (hp : H p = none) :
    Q (.ref p) (upd H p (.lst xs)) := by
  refine h (ρ ++ [p]) (.ref p) _ (.alloc hp) (r.alloc hp ⟨xs, upd_same, RDs.grow (.alloc hp) _ _ q⟩) ?_
  show RD K CA _ _ (.ref S.length) (.ref p)
  simp only [RD]
  exact ⟨p, by rw [← r.len]; simp, rfl⟩
theorem rd_int {K : PySem.W.Frag} {ρ : List Addr} {H : Hp} {i : Int} {v : V} (h : RD K CA ρ H (.int i) v) : v = .int i := by simpa only [RD] using h
theorem rd_str {K : PySem.W.Frag} {ρ : List Addr} {H : Hp} {i : Str} {v : V} (h : RD K CA ρ H (.str i) v) : v = .str i := by simpa only [RD] using h
theorem rd_bl {K : PySem.W.Frag} {ρ : List Addr} {H : Hp} {i : Bool} {v : V} (h : RD K CA ρ H (.bl i) v) : v = .bl i := by simpa only [RD] using h
theorem rd_non {K : PySem.W.Frag} {ρ : List Addr} {H : Hp} {v : V} (h : RD K CA ρ H .non v) : v = .non := by simpa only [RD] using h
theorem rd_tup {K : PySem.W.Frag} {ρ : List Addr} {H : Hp} {ds : List D} {v : V} (h : RD K CA ρ H (.tup ds) v) : ∃ a xs, v = .ref a ∧ SqT K H a xs ∧ RDs K CA ρ H ds xs := by simpa only [RD] using h
theorem mk_int {K : PySem.W.Frag} {ρ : List Addr} {H : Hp} {i : Int} : RD K CA ρ H (.int i) (.int i) := by simp only [RD]
theorem mk_str {K : PySem.W.Frag} {ρ : List Addr} {H : Hp} {i : Str} : RD K CA ρ H (.str i) (.str i) := by simp only [RD]
theorem mk_bl {K : PySem.W.Frag} {ρ : List Addr} {H : Hp} {i : Bool} : RD K CA ρ H (.bl i) (.bl i) := by simp only [RD]
theorem mk_non {K : PySem.W.Frag} {ρ : List Addr} {H : Hp} : RD K CA ρ H .non .non := by simp only [RD]
theorem opImp {f : Value → Value → Sem Value} {r r' : R2} (h : OpR X f r) (q : ∀ x y H Q, r' x y H Q → r x y H Q) : OpR X f r' := fun pins s σ H x y v u Q I rx ry z => h pins s σ H x y v u Q I rx ry (q x y H Q z)
theorem op_addG : OpR X (binaryOp .Add) (rG X.K CA addD) := by
  refine opImp (X := X) (((op_add.or op_add_str).or op_catA).or op_cat) fun x y H Q h => ?_
  obtain ⟨ρ, S, a, b, W, σ, r, ra, rb, g⟩ := h
  unfold addD at g
  split at g
  · cases rd_int ra; cases rd_int rb
    exact .inl (.inl (.inl ⟨_, _, rfl, rfl, good_ok g r mk_int⟩))
  · cases rd_str ra; cases rd_str rb
    split at g
    · rename_i hz
      exact .inl (.inl (.inr ⟨_, _, rfl, rfl, by rw [← lim_eq]; exact hz, good_ok g r mk_str⟩))
    · exact g.elim
  · obtain ⟨a1, xs, rfl, h1, q1⟩ := rd_tup ra
    obtain ⟨a2, ys, rfl, h2, q2⟩ := rd_tup rb
    split at g
    · rename_i ds es hz
      refine .inl (.inr ⟨a1, a2, xs, ys, rfl, rfl, h1, h2, by rw [← lim_eq, ← q1.length, ← q2.length]; exact hz, fun e => ?_, fun _ e => ?_, fun _ _ p hp => good_tup g r (q1.append q2) hp⟩)
      · subst e
        have z : ds = [] := by have := q1.length; simpa using this
        subst z
        exact good_ok g r rb
      · subst e
        have z : es = [] := by have := q2.length; simpa using this
        subst z
        rw [List.append_nil] at g
        exact good_ok g r ra
    · exact g.elim
  · split at g
    · rename_i i j xs ys hx hy
      obtain ⟨a1, vs, rfl, _, h1, q1⟩ := r.wlist_v ra hx
      obtain ⟨a2, ws, rfl, _, h2, q2⟩ := r.wlist_v rb hy
      split at g
      · rename_i hz
        exact .inr ⟨a1, a2, vs, ws, rfl, rfl, h1, h2, by rw [← lim_eq, ← q1.length, ← q2.length]; exact hz, fun p hp => good_lst g r (q1.append q2) hp⟩
      · exact g.elim
    · exact g.elim
  · exact g.elim
def bopOf : Bop → Operator
  | .add => .Add | .sub => .Sub | .mul => .Mult | .fdiv => .FloorDiv | .mod => .Mod | .pow => .Pow
theorem op_binG (o : Bop) : OpR X (binaryOp (bopOf o)) (rG X.K CA (binD o)) := by
  cases o with
  | add => exact op_addG
  | sub =>
    refine opImp (X := X) op_sub fun x y H Q h => ?_
    obtain ⟨ρ, S, a, b, W, σ, r, ra, rb, g⟩ := h
    simp only [binD] at g
    split at g
    · cases rd_int ra; cases rd_int rb
      exact ⟨_, _, rfl, rfl, good_ok g r mk_int⟩
    · exact g.elim
  | mul =>
    refine opImp (X := X) op_mulW fun x y H Q h => ?_
    obtain ⟨ρ, S, a, b, W, σ, r, ra, rb, g⟩ := h
    simp only [binD] at g
    split at g
    · cases rd_int ra; cases rd_int rb
      split at g
      · rename_i hc
        exact ⟨_, _, rfl, rfl, (by unfold mulOk at hc; unfold CMulW; exact of_decide_eq_true hc), good_ok g r mk_int⟩
      · exact g.elim
    · exact g.elim
  | fdiv =>
    refine opImp (X := X) op_fdivW fun x y H Q h => ?_
    obtain ⟨ρ, S, a, b, W, σ, r, ra, rb, g⟩ := h
    simp only [binD] at g
    split at g
    · cases rd_int ra; cases rd_int rb
      split at g
      · rename_i hc
        exact ⟨_, _, rfl, rfl, hc, good_ok g r mk_int⟩
      · exact g.elim
    · exact g.elim
  | mod =>
    refine opImp (X := X) op_mod fun x y H Q h => ?_
    obtain ⟨ρ, S, a, b, W, σ, r, ra, rb, g⟩ := h
    simp only [binD] at g
    split at g
    · cases rd_int ra; cases rd_int rb
      split at g
      · rename_i hc
        exact ⟨_, _, rfl, rfl, hc, good_ok g r mk_int⟩
      · exact g.elim
    · exact g.elim
  | pow =>
    refine opImp (X := X) op_pow fun x y H Q h => ?_
    obtain ⟨ρ, S, a, b, W, σ, r, ra, rb, g⟩ := h
    simp only [binD] at g
    split at g
    · cases rd_int ra; cases rd_int rb
      split at g
      · rename_i hc
        exact ⟨_, _, rfl, rfl, hc, good_ok g r mk_int⟩
      · exact g.elim
    · exact g.elim
/-- comparisons: a truth -/
def rC (K : PySem.W.Frag) (CA : Str → Option Addr) (f : Sto → D → D → Option Bool) : R2 := fun x y H Q =>
  ∃ ρ S a b k, Rep K CA ρ H S ∧ RD K CA ρ H a x ∧ RD K CA ρ H b y ∧ f S a b = some k ∧ Q (.bl k) H
def copOf : Cop → CmpOp
  | .eq => .Eq | .ne => .NotEq | .lt => .Lt | .le => .LtE | .gt => .Gt | .ge => .GtE | .is_ => .Is | .isnot => .IsNot | .in_ => .In | .notin => .NotIn
theorem eqD1_some {S : Sto} {a b : D} {k : Bool} (h : eqD1 S a b = some k) : (∃ p q, pd 60 S a = some p ∧ pd 60 S b = some q ∧ SeqAt.shaped p = true ∧ SeqAt.shaped q = true ∧ k = PyData.eqv p q) ∨ (sameDic S a b = true ∧ k = true) := by
  unfold eqD1 at h
  split at h
  · rename_i p q h1 h2
    split at h
    · rename_i hz
      rw [Bool.and_eq_true] at hz
      exact .inl ⟨p, q, h1, h2, hz.1, hz.2, (Option.some.inj h).symm⟩
    · cases h
  · by_cases hz : sameDic S a b = true
    · rw [if_pos hz] at h
      exact .inr ⟨hz, (Option.some.inj h).symm⟩
    · rw [if_neg hz] at h
      cases h
theorem strs2_some {a b : D} {p : Str × Str} (h : strs2 a b = some p) : a = .str p.1 ∧ b = .str p.2 := by
  unfold strs2 at h
  split at h
  · cases h; exact ⟨rfl, rfl⟩
  · cases h
theorem eqD_some {S : Sto} {a b : D} {k : Bool} (h : eqD S a b = some k) : (∃ x y, a = .str x ∧ b = .str y ∧ k = decide (x = y)) ∨ (∃ p q, pd 60 S a = some p ∧ pd 60 S b = some q ∧ SeqAt.shaped p = true ∧ SeqAt.shaped q = true ∧ k = PyData.eqv p q) ∨ (sameDic S a b = true ∧ k = true) := by
  unfold eqD at h
  split at h
  · rename_i p hp
    obtain ⟨e1, e2⟩ := strs2_some hp
    exact .inl ⟨_, _, e1, e2, (Option.some.inj h).symm⟩
  · exact .inr (eqD1_some h)
theorem Rep.dic_v {K : PySem.W.Frag} {ρ : List Addr} {H : Hp} {S : Sto} (r : Rep K CA ρ H S) {i : Nat} {kvs : List (D × D)} {v : V} (h : RD K CA ρ H (.ref i) v) (e : dicAt S i = some kvs) : ∃ a l, v = .ref a ∧ ρ[i]? = some a ∧ H a = some (.dK l) ∧ RK K CA ρ H kvs l := by
  obtain ⟨a, ha, rfl⟩ := h.ref
  unfold dicAt at e
  split at e
  · rename_i k hk
    cases e
    obtain ⟨b, hb, l, h1, h2⟩ := r.at_ hk
    rw [ha] at hb
    cases hb
    exact ⟨a, l, rfl, ha, h1, h2⟩
  · cases e
theorem rk_keys {K : PySem.W.Frag} {ρ : List Addr} {H : Hp} : ∀ {kvs : List (D × D)} {l : List (L2.Key × V)}, RK K CA ρ H kvs l → kvs.map (fun p => keyD p.1) = (l.map (·.1)).map some
  | [], l, h => by have : l = [] := h; subst this; rfl
  | p :: r, l, h => by
    obtain ⟨k, v, s, rfl, h0, _, h2⟩ := h
    simp only [List.map_cons, h0, rk_keys h2]
theorem flatPd_v {K : PySem.W.Frag} {ρ : List Addr} {H : Hp} {d : D} {p : PyData} {v : V} (h : RD K CA ρ H d v) (e : flatPd d = some p) : flatB v = true := by
  cases d with
  | non => simp only [RD] at h; subst h; rfl
  | bl b => simp only [RD] at h; subst h; rfl
  | int i => simp only [RD] at h; subst h; rfl
  | str s => simp only [RD] at h; subst h; rfl
  | tup ds => cases e
  | ref i => cases e
  | exc C ns ds => cases e
theorem flatKv_cons {p : D × D} {r : List (D × D)} (h : (flatKv (p :: r)).isSome = true) : ∃ k v l, flatPd p.1 = some k ∧ flatPd p.2 = some v ∧ flatKv r = some l ∧ flatKv (p :: r) = some ((k, v) :: l) := by
  have e : flatKv (p :: r) = match flatPd p.1, flatPd p.2, flatKv r with
    | some k, some v, some l => some ((k, v) :: l)
    | _, _, _ => none := rfl
  rw [e] at h ⊢
  cases h1 : flatPd p.1 with
  | none => rw [h1] at h; cases h
  | some k =>
    cases h2 : flatPd p.2 with
    | none => rw [h1, h2] at h; cases h
    | some v =>
      cases h3 : flatKv r with
      | none => rw [h1, h2, h3] at h; cases h
      | some l => exact ⟨k, v, l, rfl, rfl, rfl, rfl⟩
theorem nodup_some {α : Type} : ∀ {l : List α}, (l.map some).Nodup → l.Nodup
  | [], _ => .nil
  | a :: l, h => by
    rw [List.map_cons, List.nodup_cons] at h
    rw [List.nodup_cons]
    exact ⟨fun m => h.1 (List.mem_map_of_mem (f := some) m), nodup_some h.2⟩
theorem rk_flat {K : PySem.W.Frag} {ρ : List Addr} {H : Hp} : ∀ {kvs : List (D × D)} {l : List (L2.Key × V)}, RK K CA ρ H kvs l → (flatKv kvs).isSome = true → ∀ p ∈ l, flatB p.2 = true
  | [], l, h, _, p, hp => by have : l = [] := h; subst this; cases hp
  | q :: r, l, h, e, p, hp => by
    obtain ⟨k, v, s, rfl, h0, h1, h2⟩ := h
    obtain ⟨k', v', l', e1, e2, e3, _⟩ := flatKv_cons e
    rcases List.mem_cons.mp hp with rfl | hp
    · exact flatPd_v h1 e2
    · exact rk_flat h2 (by rw [e3]; rfl) p hp
theorem same_dic {K : PySem.W.Frag} {ρ : List Addr} {H : Hp} {S : Sto} {a b : D} {x y : V} (r : Rep K CA ρ H S) (ra : RD K CA ρ H a x) (rb : RD K CA ρ H b y) (e : sameDic S a b = true) :
    ∃ p l, x = .ref p ∧ y = .ref p ∧ H p = some (.dK l) ∧ (l.map (·.1)).Nodup ∧ ∀ q ∈ l, flatB q.2 = true := by
  unfold sameDic at e
  split at e
  · rename_i i j
    rw [Bool.and_eq_true] at e
    obtain ⟨e1, e2⟩ := e
    have : i = j := beq_iff_eq.mp e1
    subst this
    split at e2
    · rename_i kvs hk
      rw [Bool.and_eq_true] at e2
      obtain ⟨e3, e4⟩ := e2
      obtain ⟨p, l, rfl, hp, h1, h2⟩ := r.dic_v ra hk
      obtain ⟨q, hq, rfl⟩ := rb.ref
      rw [hp] at hq
      cases hq
      refine ⟨p, l, rfl, rfl, h1, ?_, rk_flat h2 e3⟩
      have := of_decide_eq_true e4
      rw [rk_keys h2] at this
      exact nodup_some this
    · cases e2
  · cases e
theorem ints_some {f : Int → Int → Bool} {a b : D} {k : Bool} (h : intsOp f a b = some k) : ∃ i j, a = .int i ∧ b = .int j ∧ k = f i j := by
  unfold intsOp at h
  split at h
  · exact ⟨_, _, rfl, rfl, (Option.some.inj h).symm⟩
  · cases h
theorem isD_some {a b : D} {k : Bool} (h : isD a b = some k) : b = .non ∧ (k = true ↔ a = .non) := by
  unfold isD at h
  split at h
  · cases h; simp
  · rename_i hn
    cases h
    exact ⟨rfl, by simp; exact fun e => hn e⟩
  · cases h
theorem rd_isnon {K : PySem.W.Frag} {ρ : List Addr} {H : Hp} {a : D} {x : V} (h : RD K CA ρ H a x) : (x = .non) ↔ (a = .non) := by
  cases a with
  | non => simp only [RD] at h; subst h; simp
  | bl b => simp only [RD] at h; subst h; simp
  | int i => simp only [RD] at h; subst h; simp
  | str s => simp only [RD] at h; subst h; simp
  | tup ds => simp only [RD] at h; obtain ⟨_, _, rfl, _⟩ := h; simp
  | ref i => simp only [RD] at h; obtain ⟨_, _, rfl⟩ := h; simp
  | exc C ns ds => simp only [RD] at h; obtain ⟨_, _, _, _, rfl, _⟩ := h; simp
/-- x in a tuple of data -/
def rInTD (K : PySem.W.Frag) : R2 := fun x y H Q => ∃ d ds, Dp K H x d ∧ Dp K H y (.tuple ds) ∧ SeqAt.shaped d = true ∧ SeqAt.shaped (.tuple ds) = true ∧ Q (.bl (ds.any fun z => PyData.eqv z d)) H
def rNotInTD (K : PySem.W.Frag) : R2 := fun x y H Q => ∃ d ds, Dp K H x d ∧ Dp K H y (.tuple ds) ∧ SeqAt.shaped d = true ∧ SeqAt.shaped (.tuple ds) = true ∧ Q (.bl (!ds.any fun z => PyData.eqv z d)) H
theorem room_inT {A : Around} {d : PyData} {ds : List PyData} (h : SeqAt.shaped d = true) (hu : A.units + 65 < cLine) : A.units + 1 + min (PyData.depthAll ds) d.depth < cLine := by
  have h1 := SeqAt.depth_of_shaped h
  have h2 : min (PyData.depthAll ds) d.depth ≤ d.depth := Nat.min_le_right _ _
  omega
theorem op_inTD (hu : X.A.units + 65 < cLine) : OpR X (compareOp .In) (rInTD X.K) := by
  intro pins s σ H x y v u Q I rx ry h
  obtain ⟨d, ds, hd, he, sd, se, q⟩ := h
  obtain ⟨as, r1⟩ := Dp.reads I d x v hd rx
  obtain ⟨bs, r2⟩ := Dp.reads I (.tuple ds) y u he ry
  exact SeqAt.in_tuple_reads r2 r1 (SeqAt.canLay_of_shaped se) (SeqAt.canLay_of_shaped sd) (room_inT sd hu) ⟨.bl _, H, I, rfl, q⟩
theorem op_notInTD (hu : X.A.units + 65 < cLine) : OpR X (compareOp .NotIn) (rNotInTD X.K) := by
  intro pins s σ H x y v u Q I rx ry h
  obtain ⟨d, ds, hd, he, sd, se, q⟩ := h
  obtain ⟨as, r1⟩ := Dp.reads I d x v hd rx
  obtain ⟨bs, r2⟩ := Dp.reads I (.tuple ds) y u he ry
  exact SeqAt.notIn_tuple_reads r2 r1 (SeqAt.canLay_of_shaped se) (SeqAt.canLay_of_shaped sd) (room_inT sd hu) ⟨.bl _, H, I, rfl, q⟩
theorem inD_some {S : Sto} {a b : D} {k : Bool} (h : inD S a b = some k) : (∃ x y, a = .str x ∧ b = .str y ∧ k = !(Builtin.Str.occurrences y x 0 y.length 1).isEmpty) ∨
    ∃ p qs, pd 60 S a = some p ∧ (pd 60 S b = some (.list qs) ∧ SeqAt.shaped (.list qs) = true ∨ pd 60 S b = some (.tuple qs) ∧ SeqAt.shaped (.tuple qs) = true) ∧ SeqAt.shaped p = true ∧ k = qs.any fun q => PyData.eqv q p := by
  unfold inD at h
  split at h
  · exact .inl ⟨_, _, rfl, rfl, (Option.some.inj h).symm⟩
  · split at h
    · rename_i p qs h1 h2
      split at h
      · rename_i hz
        rw [Bool.and_eq_true] at hz
        exact .inr ⟨p, qs, h1, .inl ⟨h2, hz.2⟩, hz.1, (Option.some.inj h).symm⟩
      · cases h
    · rename_i p qs h1 h2
      split at h
      · rename_i hz
        rw [Bool.and_eq_true] at hz
        exact .inr ⟨p, qs, h1, .inr ⟨h2, hz.2⟩, hz.1, (Option.some.inj h).symm⟩
      · cases h
    · cases h
theorem map_some {f : Bool → Bool} {o : Option Bool} {k : Bool} (h : o.map f = some k) : ∃ k', o = some k' ∧ k = f k' := by
  cases o with
  | none => cases h
  | some b => exact ⟨b, rfl, (Option.some.inj h).symm⟩
theorem op_cmpG (o : Cop) (hu : X.A.units + 65 < cLine) : OpR X (compareOp (copOf o)) (rC X.K CA (cmpD o)) := by
  cases o with
  | eq =>
    refine opImp (X := X) (op_eq.or ((op_eqD (X := X) (by omega)).or (op_eq_dictA (X := X) (by omega)))) fun x y H Q h => ?_
    obtain ⟨ρ, S, a, b, k, r, ra, rb, e, q⟩ := h
    rcases eqD_some e with ⟨x', y', rfl, rfl, rfl⟩ | ⟨p1, p2, e1, e2, s1, s2, rfl⟩ | ⟨e3, rfl⟩
    · cases rd_str ra; cases rd_str rb
      refine .inl ⟨rfl, ?_⟩
      rw [show decide (V.str x' = V.str y') = decide (x' = y') from by simp]
      exact q
    · exact .inr <| .inl ⟨p1, p2, dp_of r _ _ _ _ e1 ra, dp_of r _ _ _ _ e2 rb, s1, s2, q⟩
    · obtain ⟨p, l, rfl, rfl, h1, h2, h3⟩ := same_dic r ra rb e3
      exact .inr <| .inr ⟨p, p, l, l, rfl, rfl, h1, h1, rfl, fun z hz => ⟨val_nodup h2 z hz, h3 z hz⟩, q⟩
  | ne =>
    refine opImp (X := X) (op_ne.or ((op_neD (X := X) (by omega)).or (op_ne_dictA (X := X) (by omega)))) fun x y H Q h => ?_
    obtain ⟨ρ, S, a, b, k, r, ra, rb, e, q⟩ := h
    obtain ⟨k', e', rfl⟩ := map_some e
    rcases eqD_some e' with ⟨x', y', rfl, rfl, rfl⟩ | ⟨p1, p2, e1, e2, s1, s2, rfl⟩ | ⟨e3, rfl⟩
    · cases rd_str ra; cases rd_str rb
      refine .inl ⟨rfl, ?_⟩
      rw [show decide (V.str x' = V.str y') = decide (x' = y') from by simp]
      exact q
    · exact .inr <| .inl ⟨p1, p2, dp_of r _ _ _ _ e1 ra, dp_of r _ _ _ _ e2 rb, s1, s2, q⟩
    · obtain ⟨p, l, rfl, rfl, h1, h2, h3⟩ := same_dic r ra rb e3
      exact .inr <| .inr ⟨p, p, l, l, rfl, rfl, h1, h1, rfl, fun z hz => ⟨val_nodup h2 z hz, h3 z hz⟩, q⟩
  | lt =>
    refine opImp (X := X) op_lt fun x y H Q h => ?_
    obtain ⟨ρ, S, a, b, k, r, ra, rb, e, q⟩ := h
    obtain ⟨i, j, rfl, rfl, rfl⟩ := ints_some e
    cases rd_int ra; cases rd_int rb
    exact ⟨i, j, rfl, rfl, q⟩
  | le =>
    refine opImp (X := X) op_le fun x y H Q h => ?_
    obtain ⟨ρ, S, a, b, k, r, ra, rb, e, q⟩ := h
    obtain ⟨i, j, rfl, rfl, rfl⟩ := ints_some e
    cases rd_int ra; cases rd_int rb
    exact ⟨i, j, rfl, rfl, q⟩
  | gt =>
    refine opImp (X := X) op_gt fun x y H Q h => ?_
    obtain ⟨ρ, S, a, b, k, r, ra, rb, e, q⟩ := h
    obtain ⟨i, j, rfl, rfl, rfl⟩ := ints_some e
    cases rd_int ra; cases rd_int rb
    exact ⟨i, j, rfl, rfl, q⟩
  | ge =>
    refine opImp (X := X) op_ge fun x y H Q h => ?_
    obtain ⟨ρ, S, a, b, k, r, ra, rb, e, q⟩ := h
    obtain ⟨i, j, rfl, rfl, rfl⟩ := ints_some e
    cases rd_int ra; cases rd_int rb
    exact ⟨i, j, rfl, rfl, q⟩
  | is_ =>
    refine opImp (X := X) op_isN fun x y H Q h => ?_
    obtain ⟨ρ, S, a, b, k, r, ra, rb, e, q⟩ := h
    obtain ⟨rfl, e2⟩ := isD_some e
    have z : decide (x = .non) = k := by
      have := rd_isnon ra
      cases k with
      | true => exact decide_eq_true (this.mpr (e2.mp rfl))
      | false => exact decide_eq_false fun h => by have := e2.mpr (this.mp h); cases this
    exact ⟨rd_non rb, by rw [z]; exact q⟩
  | isnot =>
    refine opImp (X := X) op_notN fun x y H Q h => ?_
    obtain ⟨ρ, S, a, b, k, r, ra, rb, e, q⟩ := h
    obtain ⟨k', e', rfl⟩ := map_some e
    obtain ⟨rfl, e2⟩ := isD_some e'
    have z : decide (x = .non) = k' := by
      have := rd_isnon ra
      cases k' with
      | true => exact decide_eq_true (this.mpr (e2.mp rfl))
      | false => exact decide_eq_false fun h => by have := e2.mpr (this.mp h); cases this
    exact ⟨rd_non rb, by rw [z]; exact q⟩
  | in_ =>
    refine opImp (X := X) ((op_in_str.or (op_inD hu)).or (op_inTD hu)) fun x y H Q h => ?_
    obtain ⟨ρ, S, a, b, k, r, ra, rb, e, q⟩ := h
    rcases inD_some e with ⟨x', y', rfl, rfl, rfl⟩ | ⟨p, qs, e1, e2, s1, rfl⟩
    · cases rd_str ra; cases rd_str rb
      exact .inl (.inl ⟨_, _, rfl, rfl, q⟩)
    · rcases e2 with ⟨e2, s2⟩ | ⟨e2, s2⟩
      · exact .inl (.inr ⟨p, qs, dp_of r _ _ _ _ e1 ra, dp_of r _ _ _ _ e2 rb, s1, s2, q⟩)
      · exact .inr ⟨p, qs, dp_of r _ _ _ _ e1 ra, dp_of r _ _ _ _ e2 rb, s1, s2, q⟩
  | notin =>
    refine opImp (X := X) ((op_notIn_str.or (op_notInD hu)).or (op_notInTD hu)) fun x y H Q h => ?_
    obtain ⟨ρ, S, a, b, k, r, ra, rb, e, q⟩ := h
    obtain ⟨k', e', rfl⟩ := map_some e
    rcases inD_some e' with ⟨x', y', rfl, rfl, rfl⟩ | ⟨p, qs, e1, e2, s1, rfl⟩
    · cases rd_str ra; cases rd_str rb
      exact .inl (.inl ⟨_, _, rfl, rfl, q⟩)
    · rcases e2 with ⟨e2, s2⟩ | ⟨e2, s2⟩
      · exact .inl (.inr ⟨p, qs, dp_of r _ _ _ _ e1 ra, dp_of r _ _ _ _ e2 rb, s1, s2, q⟩)
      · exact .inr ⟨p, qs, dp_of r _ _ _ _ e1 ra, dp_of r _ _ _ _ e2 rb, s1, s2, q⟩
end
end Am
set_option maxHeartbeats 1000000
/-! Am3: subscripts, slices, truth, built-in calls. -/
namespace Am
open PySem PySem.Spec PyProof.Rows L2
section
variable {X : Cx} {CA : Str → Option Addr}
/-! ### subscripts -/
theorem ix_imp {r r' : R2} (h : IxR X r) (q : ∀ x y H Q, r' x y H Q → r x y H Q) : IxR X r' := by
  intro value slice pins s σ H x y v u Q I rx ry z hs
  exact h value slice pins s σ H x y v u Q I rx ry (q x y H Q z) hs
def rIxG (K : PySem.W.Frag) (CA : Str → Option Addr) : R2 := fun x y H Q => ∃ ρ S a b d, Rep K CA ρ H S ∧ RD K CA ρ H a x ∧ RD K CA ρ H b y ∧ ixD S a b = some d ∧ ∀ v, RD K CA ρ H d v → Q v H
theorem at_rd {K : PySem.W.Frag} {ρ : List Addr} {H : Hp} {ds : List D} {xs : List V} {i : Int} {d : D} (h : RDs K CA ρ H ds xs) (e : L2.atI ds i = some d) : ∃ v, L2.atI xs i = some v ∧ RD K CA ρ H d v := by
  unfold L2.atI at e ⊢
  rw [h.length] at e
  cases q : L2.ixN xs.length i with
  | none => rw [q] at e; cases e
  | some j =>
    rw [q] at e
    exact h.get (i := j) e
theorem ix_G : IxR X (rIxG X.K CA) := by
  refine ix_imp (X := X) ix_seq fun x y H Q h => ?_
  obtain ⟨ρ, S, a, b, d, r, ra, rb, e, q⟩ := h
  unfold ixD at e
  split at e
  · obtain ⟨p, xs, rfl, h1, h2⟩ := rd_tup ra
    cases rd_int rb
    obtain ⟨v, e1, hv⟩ := at_rd h2 e
    exact .inr (.inl ⟨p, xs, _, v, rfl, rfl, h1, e1, q v hv⟩)
  · cases rd_str ra; cases rd_int rb
    split at e
    · rename_i z k hz
      cases hc : L2.atI z.cps.toList k with
      | none => rw [hc] at e; cases e
      | some c =>
        rw [hc] at e
        cases e
        exact .inr (.inr ⟨z, k, c, rfl, rfl, by rw [← lim_eq]; exact hz, hc, q _ mk_str⟩)
    · cases e
  · cases rd_int rb
    split at e
    · rename_i ds hl
      obtain ⟨p, xs, rfl, h1, h2⟩ := r.list_v ra hl
      obtain ⟨v, e1, hv⟩ := at_rd h2 e
      exact .inl ⟨p, xs, _, v, rfl, rfl, h1, e1, q v hv⟩
    · cases e
  · cases e
/-! ### slices -/
theorem sl_imp {r r' : V → Option Int → Option Int → Hp → VK → Prop} (h : SlR X r) (q : ∀ x l u H Q, r' x l u H Q → r x l u H Q) : SlR X r' := by
  intro pins s σ H x v vl vu lo hi sl Q I rx hs pl pu z
  exact h pins s σ H x v vl vu lo hi sl Q I rx hs pl pu (q x lo hi H Q z)
def rSlG (K : PySem.W.Frag) (CA : Str → Option Addr) : V → Option Int → Option Int → Hp → VK → Prop := fun x lo hi H Q => ∃ ρ S a W σ, Rep K CA ρ H S ∧ RD K CA ρ H a x ∧ Good K CA W (PD K CA) (slD S a lo hi) ρ σ H Q
theorem cut_rd {K : PySem.W.Frag} {ρ : List Addr} {H : Hp} {ds : List D} {xs : List V} {lo hi : Option Int} (h : RDs K CA ρ H ds xs) : RDs K CA ρ H (cutD ds lo hi) (cutV xs lo hi) := by
  unfold cutD cutV
  rw [h.length]
  exact (h.drop _).take _
theorem cut_whole {xs : List D} {lo hi : Option Int} (h : HT.sIx xs.length 0 lo = 0 ∧ HT.sIx xs.length xs.length hi = xs.length) : cutD xs lo hi = xs := by
  unfold cutD
  rw [h.1, h.2]
  simp
theorem sl_G : SlR X (rSlG X.K CA) := by
  refine sl_imp (X := X) ((sl_tupA.or C8.sl_txt).or sl_list) fun x lo hi H Q h => ?_
  obtain ⟨ρ, S, a, W, σ, r, ra, g⟩ := h
  unfold slD at g
  split at g
  · obtain ⟨p, xs, rfl, h1, h2⟩ := rd_tup ra
    refine .inl (.inl ⟨p, xs, rfl, h1, fun hw => ?_, fun hw q hq => good_tup g r (cut_rd h2) hq⟩)
    rw [cut_whole (by rw [h2.length]; exact hw)] at g
    exact good_ok g r ra
  · cases rd_str ra
    split at g
    · rename_i hz
      exact .inl (.inr ⟨_, rfl, by rw [← lim_eq]; exact hz, good_ok g r mk_str⟩)
    · exact g.elim
  · split at g
    · rename_i ds hl
      obtain ⟨p, xs, rfl, h1, h2⟩ := r.list_v ra hl
      exact .inr ⟨p, xs, rfl, h1, fun q hq => good_lst g r (cut_rd h2) hq⟩
    · exact g.elim
  · exact g.elim
/-! ### truth -/
theorem emp_len {α β : Type} {xs : List α} {ys : List β} (h : xs.length = ys.length) : xs.isEmpty = ys.isEmpty := by
  cases xs <;> cases ys <;> first | rfl | cases h
theorem tru_of {K : PySem.W.Frag} {ρ : List Addr} {H : Hp} {S : Sto} {d : D} {v : V} {k : Bool} (r : Rep K CA ρ H S) (h : RD K CA ρ H d v) (e : truthy S d = some k) : TruV K v H k := by
  unfold truthy at e
  split at e
  · cases e; cases rd_non h; rfl
  · cases e; cases rd_bl h; rfl
  · cases e; cases rd_int h; rfl
  · cases rd_str h
    split at e
    · rename_i hz
      cases e
      exact ⟨by rw [← lim_eq]; exact hz, rfl⟩
    · cases e
  · cases e
    obtain ⟨p, xs, rfl, h1, h2⟩ := rd_tup h
    exact .inr (.inl ⟨xs, h1, by rw [emp_len h2.length]⟩)
  · split at e
    · rename_i ds hl
      cases e
      obtain ⟨p, xs, rfl, h1, h2⟩ := r.list_v (ds := ds) h (by unfold lstAt; rw [hl])
      exact .inl ⟨xs, h1, by rw [emp_len h2.length]⟩
    · rename_i ds hl
      cases e
      obtain ⟨p, xs, rfl, h1, h2⟩ := r.list_v (ds := ds) h (by unfold lstAt; rw [hl])
      exact .inl ⟨xs, h1, by rw [emp_len h2.length]⟩
    · cases e
  · cases e
/-! ### built-in calls -/
theorem call_imp {f : Value} {r r' : List V → Hp → VK → Prop} (h : CallR X f r) (q : ∀ xs H Q, r' xs H Q → r xs H Q) : CallR X f r' := fun pins s σ H xs us Q I rs z => h pins s σ H xs us Q I rs (q xs H Q z)
def rB (K : PySem.W.Frag) (CA : Str → Option Addr) (f : Blt) : List V → Hp → VK → Prop := fun xs H Q => ∃ ρ S as W σ, Rep K CA ρ H S ∧ RDs K CA ρ H as xs ∧ Good K CA W (PD K CA) (bltD f S as) ρ σ H Q
theorem rds1 {K : PySem.W.Frag} {ρ : List Addr} {H : Hp} {a : D} {xs : List V} (h : RDs K CA ρ H [a] xs) : ∃ v, xs = [v] ∧ RD K CA ρ H a v := by
  simp only [RDs] at h
  obtain ⟨v, r, rfl, h1, rfl⟩ := h
  exact ⟨v, rfl, h1⟩
theorem rds2 {K : PySem.W.Frag} {ρ : List Addr} {H : Hp} {a b : D} {xs : List V} (h : RDs K CA ρ H [a, b] xs) : ∃ v u, xs = [v, u] ∧ RD K CA ρ H a v ∧ RD K CA ρ H b u := by
  simp only [RDs] at h
  obtain ⟨v, r, rfl, h1, u, q, rfl, h2, rfl⟩ := h
  exact ⟨v, u, rfl, h1, h2⟩
theorem seq_rd {K : PySem.W.Frag} {ρ : List Addr} {H : Hp} {S : Sto} {a : D} {ds : List D} {v : V} (r : Rep K CA ρ H S) (h : RD K CA ρ H a v) (e : seqOf S a = some ds) : ∃ p xs, v = .ref p ∧ (SqL K H p xs ∨ SqT K H p xs) ∧ RDs K CA ρ H ds xs ∧ ((∃ i, a = .ref i ∧ SqL K H p xs) ∨ (a = .tup ds ∧ SqT K H p xs)) := by
  unfold seqOf at e
  split at e
  · cases e
    obtain ⟨p, xs, rfl, h1, h2⟩ := rd_tup h
    exact ⟨p, xs, rfl, .inr h1, h2, .inr ⟨rfl, h1⟩⟩
  · obtain ⟨p, xs, rfl, h1, h2⟩ := r.list_v h e
    exact ⟨p, xs, rfl, .inl h1, h2, .inl ⟨_, rfl, h1⟩⟩
  · cases e
theorem ints_rd {K : PySem.W.Frag} {ρ : List Addr} {H : Hp} : ∀ {ds : List D} {xs : List V} {ns : List Int}, RDs K CA ρ H ds xs → intsOf ds = some ns → xs = ns.map V.int
  | [], xs, ns, h, e => by
    simp only [RDs] at h
    subst h
    cases e
    rfl
  | d :: ds, xs, ns, h, e => by
    unfold intsOf at e
    split at e
    · rename_i z; cases z
    · rename_i i r z
      cases z
      simp only [RDs] at h
      obtain ⟨v, q, rfl, h1, h2⟩ := h
      cases rd_int h1
      cases he : intsOf ds with
      | none => rw [he] at e; cases e
      | some ms =>
        rw [he] at e
        cases e
        rw [ints_rd h2 he]
        rfl
    · cases e
theorem bls_rd {K : PySem.W.Frag} {ρ : List Addr} {H : Hp} : ∀ {ds : List D} {xs : List V} {ns : List Bool}, RDs K CA ρ H ds xs → blsOf ds = some ns → xs = ns.map V.bl
  | [], xs, ns, h, e => by
    simp only [RDs] at h
    subst h
    cases e
    rfl
  | d :: ds, xs, ns, h, e => by
    unfold blsOf at e
    split at e
    · rename_i z; cases z
    · rename_i i r z
      cases z
      simp only [RDs] at h
      obtain ⟨v, q, rfl, h1, h2⟩ := h
      cases rd_bl h1
      cases he : blsOf ds with
      | none => rw [he] at e; cases e
      | some ms =>
        rw [he] at e
        cases e
        rw [bls_rd h2 he]
        rfl
    · cases e
theorem maxL_mem : ∀ (n : Int) (ns : List Int), maxL (n :: ns) ∈ n :: ns ∧ ∀ y ∈ n :: ns, y ≤ maxL (n :: ns)
  | n, [] => by simp [maxL]
  | n, m :: ns => by
    obtain ⟨h1, h2⟩ := maxL_mem m ns
    have e : maxL (n :: m :: ns) = max n (maxL (m :: ns)) := rfl
    rw [e]
    refine ⟨?_, fun y hy => ?_⟩
    · by_cases h : n ≤ maxL (m :: ns)
      · rw [Int.max_eq_right h]
        exact List.mem_cons_of_mem _ h1
      · rw [Int.max_eq_left (by omega)]
        exact List.mem_cons_self ..
    · rcases List.mem_cons.mp hy with rfl | hy
      · omega
      · have := h2 y hy
        omega
theorem minL_mem : ∀ (n : Int) (ns : List Int), minL (n :: ns) ∈ n :: ns ∧ ∀ y ∈ n :: ns, minL (n :: ns) ≤ y
  | n, [] => by simp [minL]
  | n, m :: ns => by
    obtain ⟨h1, h2⟩ := minL_mem m ns
    have e : minL (n :: m :: ns) = min n (minL (m :: ns)) := rfl
    rw [e]
    refine ⟨?_, fun y hy => ?_⟩
    · by_cases h : n ≤ minL (m :: ns)
      · rw [Int.min_eq_left h]
        exact List.mem_cons_self ..
      · rw [Int.min_eq_right (by omega)]
        exact List.mem_cons_of_mem _ h1
    · rcases List.mem_cons.mp hy with rfl | hy
      · omega
      · have := h2 y hy
        omega
/-- repr of data -/
theorem call_reprD (hg : X.A.guards = some []) (hu : X.A.units + 70 < cLine) : CallR X (.builtin "repr") (fun xs H Q => ∃ v p, xs = [v] ∧ Dp X.K H v p ∧ reprOk p = true ∧ Q (.str p.shown) H) := by
  intro pins s σ H xs us Q I r h
  obtain ⟨v, p, rfl, hd, ok, q⟩ := h
  obtain ⟨u, rfl, rx⟩ := vals1 r
  obtain ⟨as, rr⟩ := Dp.reads I p v u hd rx
  unfold reprOk at ok
  simp only [Bool.and_eq_true, Bool.not_eq_true', decide_eq_true_eq] at ok
  obtain ⟨⟨⟨h1, h2⟩, h3⟩, h4⟩ := ok
  have hz : p.shown.length ≤ sizeLine := by rw [← lim_eq]; exact h4
  cases hd with
  | non => cases rx; exact PySem.P.repr_of_none ⟨.str _, H, I.tok _, ⟨_, rfl⟩, q⟩
  | bl b => cases rx; exact PySem.P.repr_of_bool ⟨.str _, H, I.tok _, ⟨_, rfl⟩, q⟩
  | int i => obtain ⟨t, rfl⟩ := rx; exact PySem.P.repr_of_int (by simpa [PyData.showable] using h1) ⟨.str _, H, I.tok _, ⟨_, rfl⟩, q⟩
  | str x => obtain ⟨t, rfl⟩ := rx; exact PySem.P.repr_of_str ⟨.str _, H, I.tok _, ⟨_, rfl⟩, q⟩ hz
  | lst hs ha =>
    cases rx
    exact repr_of_reads' rr h1 (fun z => by rw [h2] at z; cases z) hg (by omega) (fun _ _ e => e) (fun h' u' tk hk => ⟨.str _, H, I.kept hk, ⟨_, rfl⟩, q⟩) hz
  | tup hs ha =>
    cases rx
    exact repr_of_reads' rr h1 (fun z => by rw [h2] at z; cases z) hg (by omega) (fun _ _ e => e) (fun h' u' tk hk => ⟨.str _, H, I.kept hk, ⟨_, rfl⟩, q⟩) hz
theorem flat_reads {K : PySem.W.Frag} {ρ : List Addr} {H : Hp} {h : Heap} {d : D} {p : PyData} {v : V} {u : Value} (r : RD K CA ρ H d v) (e : flatPd d = some p) (ru : RelV v u) : Reads h u p [] := by
  cases d with
  | non => simp only [RD] at r; subst r; cases e; cases ru; exact .none
  | bl b => simp only [RD] at r; subst r; cases e; cases ru; exact .bool b
  | int i => simp only [RD] at r; subst r; cases e; obtain ⟨t, rfl⟩ := ru; exact .int i t
  | str x => simp only [RD] at r; subst r; cases e; obtain ⟨t, rfl⟩ := ru; exact .str x t
  | tup ds => cases e
  | ref i => cases e
  | exc C ns ds => cases e
theorem key_reads {h : Heap} {d : D} {p : PyData} {k : L2.Key} {u : Value} (hk : keyD d = some k) (e : flatPd d = some p) (ru : keyIs k u = true) : Reads h u p [] := by
  cases d with
  | int i => cases hk; cases e; rcases keyIs_shape ru with ⟨j, t, e1, rfl⟩ | ⟨j, t, e1, rfl⟩
             · cases e1; exact .int _ _
             · cases e1
  | str i => cases hk; cases e; rcases keyIs_shape ru with ⟨j, t, e1, rfl⟩ | ⟨j, t, e1, rfl⟩
             · cases e1
             · cases e1; exact .str _ _
  | _ => cases hk
theorem dk_reads {P : Program} {w : World} {K : PySem.W.Frag} {ρ : List Addr} {H : Hp} {h : Heap} : ∀ {kvs : List (D × D)} {l : List (L2.Key × V)} {vs : List (L2.Key × Value)} {es : List DictEntry} {ps : List (PyData × PyData)}, RK K CA ρ H kvs l → KV l vs → Pairs (mixKind P w) es vs → flatKv kvs = some ps →
    ReadsAll h (es.map (·.key)) (ps.map (·.1)) [] ∧ ReadsAll h (es.map (·.val)) (ps.map (·.2)) []
  | [], l, vs, es, ps, h1, h2, h3, h4 => by
    have : l = [] := h1
    subst this
    cases h2
    cases h3
    cases h4
    exact ⟨.nil, .nil⟩
  | q :: r, l, vs, es, ps, h1, h2, h3, h4 => by
    obtain ⟨k, v, s, rfl, e0, r1, r2⟩ := h1
    obtain ⟨k', v', l', f1, f2, f3, f4⟩ := flatKv_cons (p := q) (r := r) (by rw [h4]; rfl)
    rw [h4] at f4
    cases f4
    cases h2 with
    | cons a b =>
      cases h3 with
      | cons c d e =>
        obtain ⟨a1, a2⟩ := a
        obtain ⟨g1, g2⟩ := dk_reads r2 b e f3
        refine ⟨.cons (as := []) (bs := []) (key_reads e0 f1 ?_) g1, .cons (as := []) (bs := []) ?_ g2⟩
        · rw [← mixKind_is P w]
          simpa only [← a1] using c
        · have a3 := flat_reads (h := h) r1 f2 a2
          rw [← d] at a3
          exact a3
/-- repr of a dict -/
theorem call_reprK (hg : X.A.guards = some []) (hu : X.A.units + 70 < cLine) : CallR X (.builtin "repr") (fun xs H Q => ∃ (ρ : List Addr) (a : Addr) (l : List (L2.Key × V)) (kvs : List (D × D)) (ps : List (PyData × PyData)), xs = [.ref a] ∧ H a = some (.dK l) ∧ RK X.K CA ρ H kvs l ∧ flatKv kvs = some ps ∧
    (PyData.dict ps).showable = true ∧ (PyData.dict ps).depth ≤ 60 ∧ (PyData.dict ps).shown.length ≤ lim ∧ Q (.str (PyData.dict ps).shown) H) := by
  intro pins s σ H xs us Q I r h
  obtain ⟨ρ, a, l, kvs, ps, rfl, ha, hk, hf, h1, h3, h4, q⟩ := h
  obtain ⟨u, rfl, rx⟩ := vals1 r
  cases rx
  obtain ⟨_, ya, vs, ra, o, es, ep, ho, hx, hd, _, hp, _⟩ := (show ObjOk X.prog X.w H s.heap a (.dK l) from I.hok a _ ha)
  obtain ⟨g1, g2⟩ := dk_reads (h := s.heap) hk ra hp hf
  exact repr_of_reads' (Reads.dict ho hx.1 hd g1 g2) h1 (fun _ m => by
    rcases List.mem_append.mp m with m | m
    · rcases List.mem_cons.mp m with e | m
      · rw [← e] at ya
        simp at ya
      · cases m
    · cases m) hg (by omega) (fun _ _ e => e) (fun h' u' tk hk => ⟨.str _, H, I.kept hk, ⟨_, rfl⟩, q⟩) (by rw [← lim_eq]; exact h4)
end
end Am
set_option maxHeartbeats 1000000
/-! Am4: calls. -/
namespace Am
open PySem PySem.Spec PyProof.Rows L2
/-! ### a def's promise -/
structure FnA (P : Program) (w : World) (K : PySem.W.Frag) (mg : Str → Option Value) (base : Heap) (k : Nat) (f : Addr) (fd : FuncData) (ps : List Str) (sp : Sp) : Prop where
  len : ∀ vs H Q E, sp vs H Q E → vs.length = ps.length
  run : ∀ (A : Around) (outer : List Env) (s : Shared) (H : Hp) (args : Args) (us : List Value) (vs : List V) (Q : VK) (E : XK), Rm k A → Env0 P w K mg base A outer s H → BindsTo s fd args (ps.zip us) → Vals vs us → sp vs H Q E →
    codeAny (model P w) A (.call (.ref f) args) (CR (L2.CX P w) outer P w H s Q E) s
theorem FnA.mono {P : Program} {w : World} {K : PySem.W.Frag} {mg : Str → Option Value} {base : Heap} {j k : Nat} {f : Addr} {fd : FuncData} {ps : List Str} {sp : Sp} (F : FnA P w K mg base j f fd ps sp) (h : j ≤ k) : FnA P w K mg base k f fd ps sp :=
  ⟨F.len, fun A outer s H args us vs Q E hr => F.run A outer s H args us vs Q E (hr.mono h)⟩
/-- what a def that the machine runs by f promises -/
def spR (K : PySem.W.Frag) (CA : Str → Option Addr) (n : Nat) (f : List D → Sto → Out D) : Sp := fun vs H Q E =>
  vs.length = n ∧ ∃ ρ S ds, Rep K CA ρ H S ∧ RDs K CA ρ H ds vs ∧ Good K CA (fun c dd _ H' => E c dd H') (PD K CA) (f ds S) ρ [] H Q
theorem good_W {K : PySem.W.Frag} {CA : Str → Option Addr} {W : WX} {α β : Type} {P : List Addr → Hp → α → β → Prop} {o : Out α} {ρ : List Addr} {σ : HSt} {H : Hp} {Q : β → Hp → Prop} (h : Good K CA W P o ρ σ H Q) : Good K CA (fun c dd _ H' => W c dd σ H') P o ρ [] H Q := by
  cases o with
  | ok d S' => exact h
  | exc e S' => exact h
  | bad => exact h
/-! ### binding -/
def ScalV : D → V → Prop
  | .non, v => v = .non
  | .bl b, v => v = .bl b
  | .int i, v => v = .int i
  | .str x, v => v = .str x
  | _, _ => False
theorem ScalV.rd {K : PySem.W.Frag} {CA : Str → Option Addr} {ρ : List Addr} {H : Hp} {d : D} {v : V} (h : ScalV d v) : RD K CA ρ H d v := by
  cases d <;> first | (simp only [RD]; exact h) | exact h.elim
def SrcIs (us ws : List Value) : Src → Value → Prop
  | .pos i, g => us[i]? = some g
  | .kw i, g => ws[i]? = some g
  | .con d, g => ∃ v, ScalV d v ∧ RelV v g
structure ShpOk (K : PySem.W.Frag) (fd : FuncData) (ps : List Str) (sh : Shp) : Prop where
  bind : ∀ (n : Nat) (kn : List Str) (src : List Src), sh.lookup (n, kn) = some src → ∀ (s : Shared) (us ws : List Value), K.In s.heap → us.length = n → ws.length = kn.length → ∃ gs, Paired (SrcIs us ws) src gs ∧ BindsTo s fd ⟨us, kn.zip ws⟩ (ps.zip gs)
  len : ∀ (n : Nat) (kn : List Str) (src : List Src), sh.lookup (n, kn) = some src → src.length = ps.length
section
variable {K : PySem.W.Frag} {CA : Str → Option Addr} {ρ : List Addr} {H : Hp}
theorem srcs_rd {as ws : List D} {vs zs : List V} {us wus : List Value} (ha : RDs K CA ρ H as vs) (hw : RDs K CA ρ H ws zs) (ra : Vals vs us) (rw' : Vals zs wus) : ∀ {src : List Src} {gs : List Value} {ds : List D}, Paired (SrcIs us wus) src gs → srcs as ws src = some ds → ∃ xs, Vals xs gs ∧ RDs K CA ρ H ds xs
  | [], gs, ds, h, e => by
    cases h
    cases e
    exact ⟨[], .nil, .nil⟩
  | s :: r, _, ds, .cons h1 h2, e => by
    unfold srcs at e
    cases q : s.get as ws with
    | none => rw [q] at e; cases e
    | some d =>
      rw [q] at e
      cases q2 : srcs as ws r with
      | none => simp only [q2] at e; cases e
      | some rs =>
        simp only [q2] at e
        cases e
        obtain ⟨xs, r1, r2⟩ := srcs_rd ha hw ra rw' h2 q2
        cases s with
        | pos i =>
          obtain ⟨v, e1, e2⟩ := ha.get (i := i) q
          obtain ⟨u, e3, e4⟩ := ra.get e1
          have e5 : us[i]? = some _ := h1
          rw [e3] at e5
          cases e5
          exact ⟨v :: xs, .cons e4 r1, .cons e2 r2⟩
        | kw i =>
          obtain ⟨v, e1, e2⟩ := hw.get (i := i) q
          obtain ⟨u, e3, e4⟩ := rw'.get e1
          have e5 : wus[i]? = some _ := h1
          rw [e3] at e5
          cases e5
          exact ⟨v :: xs, .cons e4 r1, .cons e2 r2⟩
        | con d' =>
          cases q
          obtain ⟨v, e1, e2⟩ := h1
          exact ⟨v :: xs, .cons e2 r1, .cons e1.rd r2⟩
theorem shp_bind {fd : FuncData} {ps : List Str} {sh : Shp} (k : ShpOk K fd ps sh) {as ws ds : List D} {kn : List Str} {vs zs : List V} {us wus : List Value} {s : Shared} (X : K.In s.heap) (e : sh.bind as kn ws = some ds) (ha : RDs K CA ρ H as vs) (hw : RDs K CA ρ H ws zs) (ra : Vals vs us) (rw' : Vals zs wus) :
    ∃ xs gs, Vals xs gs ∧ RDs K CA ρ H ds xs ∧ BindsTo s fd ⟨us, kn.zip wus⟩ (ps.zip gs) ∧ xs.length = ps.length := by
  unfold Shp.bind at e
  split at e
  · rename_i hl
    split at e
    · rename_i src hs
      have l1 : us.length = as.length := by rw [← ra.length, ha.length]
      have l2 : wus.length = kn.length := by rw [← rw'.length, ← hw.length, hl]
      obtain ⟨gs, p, b⟩ := k.bind _ _ _ hs s us wus X l1 l2
      obtain ⟨xs, r1, r2⟩ := srcs_rd ha hw ra rw' p e
      exact ⟨xs, gs, r1, r2, b, by rw [r1.length, ← k.len _ _ _ hs, Paired.length p]⟩
    · cases e
  · cases e
end
/-! ### calls -/
section
variable {X : Cx} {CA : Str → Option Addr} {W : WX}
/-- the callee runs -/
theorem runA {k : Nat} {f : Addr} {fd : FuncData} {ps kn : List Str} {sh : Shp} {g : List D → Sto → Out D} {pins : List (Addr × Obj)} {σ : HSt} {H : Hp} {s : Shared} {Q : VK} {us wus : List Value} {vs zs : List V} {as ws ds : List D} {ρ : List Addr} {S : Sto}
    (F : FnA X.prog X.w X.K X.mg X.base k f fd ps (spR X.K CA ps.length g)) (hr : Rm k X.A) (tk : Takes X W) (k' : ShpOk X.K fd ps sh)
    (I : Inv X pins σ H s) (r1 : Vals vs us) (r2 : Vals zs wus) (e : sh.bind as kn ws = some ds) (rp : Rep X.K CA ρ H S) (ha : RDs X.K CA ρ H as vs) (hw : RDs X.K CA ρ H ws zs) (h : Good X.K CA W (PD X.K CA) (g ds S) ρ σ H Q) :
    wpAny (model X.prog X.w) X.A (call (.ref f) us (kn.zip wus)) (EP X pins σ Q) X.xe s := by
  obtain ⟨xs, gs, q1, q2, b, l⟩ := shp_bind k' I.kIn e ha hw r1 r2
  refine wpAny_call (codeAny_mono (F.run X.A X.stack s H ⟨us, kn.zip wus⟩ gs xs Q (WE W σ) hr I.env0 b q1 ⟨l, ρ, S, ds, rp, q2, good_W h⟩) fun r s' hq => ?_)
  cases r with
  | error e => exact passAt tk σ pins H s e s' I hq
  | ok fl =>
    cases fl with
    | ret u => exact I.after hq
    | next => exact False.elim hq
    | brk => exact False.elim hq
    | cont => exact False.elim hq
/-- an instance is made -/
theorem runMk {k : Nat} {f C : Addr} {fd : FuncData} {ps kn : List Str} {sh : Shp} {g : List D → Sto → Out D} {Cn : Str} {pins : List (Addr × Obj)} {σ : HSt} {H : Hp} {s : Shared} {Q : VK} {us wus : List Value} {vs zs : List V} {as ws ds : List D} {ρ : List Addr} {S : Sto}
    (M : Mk X.K C f) (hC : CA Cn = some C) (F : FnA X.prog X.w X.K X.mg X.base k f fd ps (spR X.K CA ps.length g)) (hr : Rm (k + 1) X.A) (tk : Takes X W) (k' : ShpOk X.K fd ps sh)
    (I : Inv X pins σ H s) (r1 : Vals vs us) (r2 : Vals zs wus) (e : sh.bind (.ref S.length :: as) kn ws = some ds) (rp : Rep X.K CA ρ H S) (ha : RDs X.K CA ρ H as vs) (hw : RDs X.K CA ρ H ws zs)
    (h : Good X.K CA W (PD X.K CA) ((g ds (S ++ [.ins Cn []])).bind fun r S3 => match r with
      | .non => .ok (.ref S.length) S3
      | _ => .bad) ρ σ H Q) :
    wpAny (model X.prog X.w) X.A (call (.ref C) us (kn.zip wus)) (EP X pins σ Q) X.xe s := by
  have n1 : H (s.heap.objs.size + 1) = none := I.hok.fresh (Nat.le_succ _)
  have n2 : H s.heap.objs.size = none := I.hok.fresh (Nat.le_refl _)
  have ne : s.heap.objs.size + 1 ≠ s.heap.objs.size := Nat.ne_of_gt (Nat.lt_succ_self _)
  have I2 := Inv.made (C := C) I
  generalize hx : s.heap.objs.size + 1 = x at *
  generalize hd : s.heap.objs.size = dx at *
  have n3 : (upd H dx (.own x)) x = none := by rw [upd_ne ne]; exact n1
  have rp1 : Rep X.K CA (ρ ++ [x]) (upd (upd H dx (.own x)) x (.ins C dx [])) (S ++ [.ins Cn []]) := (rp.new_ (o := .own x) n2).alloc n3 ⟨C, dx, [], hC, upd_same, rfl⟩
  have g1 : Grow ρ H (ρ ++ [x]) (upd (upd H dx (.own x)) x (.ins C dx [])) := (Grow.new n2).trans (.alloc n3)
  have rx : RD X.K CA (ρ ++ [x]) (upd (upd H dx (.own x)) x (.ins C dx [])) (.ref S.length) (.ref x) := by
    simp only [RD]
    exact ⟨x, by rw [← rp.len]; simp, rfl⟩
  have q0 : Vals (V.ref x :: vs) (Value.ref x :: us) := .cons rfl r1
  obtain ⟨xs, gs, q1, q2, b, l⟩ := shp_bind k' I2.kIn e (RDs.cons rx (RDs.grow g1 _ _ ha)) (RDs.grow g1 _ _ hw) q0 r2
  have h2 := good_W (Good.bind (P := PD X.K CA) (Good.grow g1 h))
  refine wpAny_call (make_map (f := f) I.kIn M.makes M.init (beq_iff_eq.mp M.fn) ?_)
  rw [hd, hx]
  refine codeAny_mono (F.run _ X.stack _ _ ⟨Value.ref x :: us, kn.zip wus⟩ gs xs _ (WE W σ) ⟨hr.room.make C us (kn.zip wus), ?_⟩ (I2.env0.make C us (kn.zip wus)) b q1 ⟨l, _, _, ds, rp1, q2, h2⟩) fun r s' hq' => ?_
  · have := hr.gd
    first | exact this | (simpa [Around.under, Code.guards, Code.isGuard, guardIds] using this)
  cases r with
  | error e => exact passAt tk σ pins _ _ e s' I2 hq'
  | ok fl =>
    cases fl with
    | ret u =>
      obtain ⟨v, H', I3, rv, ρ1, d, S1, gg, rp2, rd, hg⟩ := I2.after hq'
      cases d with
      | non =>
        have rd' : v = .non := by simpa only [PD, RD] using rd
        subst rd'
        refine ⟨rv, ⟨V.ref x, H', I3, rfl, ?_⟩⟩
        refine Good.ok hg rp2 ?_
        show RD X.K CA ρ1 H' (.ref S.length) (.ref x)
        exact RD.grow gg _ _ rx
      | _ => exact hg.elim
    | next => exact False.elim hq'
    | brk => exact False.elim hq'
    | cont => exact False.elim hq'
end
end Am
set_option maxHeartbeats 1000000
/-! Am5: expressions: each construct's rule by the machine. -/
namespace Am
open PySem PySem.Spec PyProof.Rows L2
/-! ### weaker readings -/
section
variable {X : Cx}
theorem peI {e : Expr} {t t' : TE} (h : PE X e t) (q : ∀ σ H Q, t' σ H Q → t σ H Q) : PE X e t' := ⟨fun pins s σ H Q I z => h.run pins s σ H Q I (q σ H Q z)⟩
theorem ptI {e : Expr} {t t' : TT} (h : PT X e t) (q : ∀ σ H Q, t' σ H Q → t σ H Q) : PT X e t' := ⟨fun pins s σ H Q I z => h.run pins s σ H Q I (q σ H Q z)⟩
theorem pwI {e : Expr} {t t' : TT} (h : PW X e t) (q : ∀ σ H Q, t' σ H Q → t σ H Q) : PW X e t' := ⟨fun w pins s σ H Q I z => h.run w pins s σ H Q I (q σ H Q z)⟩
theorem paI {es : List Expr} {t t' : TA} (h : PA X es t) (q : ∀ σ H Q, t' σ H Q → t σ H Q) : PA X es t' := ⟨fun pos pins s σ H Q I z => h.run pos pins s σ H Q I (q σ H Q z)⟩
theorem pkI {es : List Keyword} {t t' : TA} (h : PK X es t) (q : ∀ σ H Q, t' σ H Q → t σ H Q) : PK X es t' := ⟨fun pos pins s σ H Q I z => h.run pos pins s σ H Q I (q σ H Q z)⟩
theorem poI {e : Option Expr} {t t' : TO} (h : PO X e t) (q : ∀ σ H Q, t' σ H Q → t σ H Q) : PO X e t' := ⟨fun pins s σ H Q I z => h.run pins s σ H Q I (q σ H Q z)⟩
theorem psI {e : Stmt} {t t' : TS} (h : PS X e t) (q : ∀ D σ H, t' D σ H → t D σ H) : PS X e t' := ⟨fun pins s σ H D I z => h.run pins s σ H D I (q D σ H z)⟩
theorem pssI {e : List Stmt} {t t' : TS} (h : PSs X e t) (q : ∀ D σ H, t' D σ H → t D σ H) : PSs X e t' := ⟨fun pins s σ H D I z => h.run pins s σ H D I (q D σ H z)⟩
end
/-! ### sequences -/
section
variable {K : PySem.W.Frag} {CA : Str → Option Addr} {W : WX} {ρ : List Addr} {H : Hp} {σ : HSt}
/-- the first step of a reading; behind it the rest -/
theorem step1 {α β γ δ : Type} {P : List Addr → Hp → α → γ → Prop} {P' : List Addr → Hp → β → δ → Prop} {m : Loc → Sto → Out α} {L : Loc} {S : Sto} {f : α → Sto → Out β} {Q : δ → Hp → Prop} {R : γ → Hp → Prop}
    (r : Rep K CA ρ H S) (l : RL K CA ρ H σ L) (h : Good K CA W P' ((m L S).bind f) ρ σ H Q)
    (k : ∀ ρ1 d S1 v H1, Grow ρ H ρ1 H1 → Rep K CA ρ1 H1 S1 → RL K CA ρ1 H1 σ L → P ρ1 H1 d v → Good K CA W P' (f d S1) ρ1 σ H1 Q → R v H1) : tM K CA W P m σ H R :=
  ⟨ρ, L, S, r, l, (Good.bind (P := P) h).imp fun v H1 ⟨ρ1, d, S1, g, r1, p, q⟩ => k ρ1 d S1 v H1 g r1 (l.grow g) p q⟩
theorem good_lift {α β : Type} {P : List Addr → Hp → α → β → Prop} {o : Option α} {S : Sto} {Q : β → Hp → Prop} (h : Good K CA W P (lift S o) ρ σ H Q) : ∃ d, o = some d ∧ Good K CA W P (.ok d S) ρ σ H Q := by
  cases o with
  | none => exact h.elim
  | some d => exact ⟨d, rfl, h⟩
theorem good_liftB {γ δ : Type} {P' : List Addr → Hp → γ → δ → Prop} {o : Option Bool} {S : Sto} {f : Bool → Sto → Out γ} {Q : δ → Hp → Prop} (h : Good K CA W P' ((lift S o).bind f) ρ σ H Q) : ∃ d, o = some d ∧ Good K CA W P' (f d S) ρ σ H Q := by
  cases o with
  | none => exact h.elim
  | some d => exact ⟨d, rfl, h⟩
end
/-! ### the text -/
def nostar : Expr → Bool
  | .Starred _ _ => false
  | _ => true
theorem star1 {e : Expr} {es : List Expr} {env : Env} (h : nostar e = true) : starEach (e :: es) env = (false, eval e env) :: starEach es env := by
  cases e <;> first | rfl | cases h
theorem stars {env : Env} {pos : Pos} : ∀ {es : List Expr}, es.all nostar = true → (backTo pos (starEach es env)).any (·.1) = false
  | [], _ => rfl
  | e :: es, h => by
    rw [List.all_cons, Bool.and_eq_true] at h
    rw [star1 h.1]
    show (false || (backTo pos (starEach es env)).any (·.1)) = false
    rw [stars h.2]
    rfl
/-- not a comprehension -/
def nocomp : Expr → Bool
  | .ListComp .. => false
  | .SetComp .. => false
  | .DictComp .. => false
  | _ => true
theorem swap0 {e : Expr} {t : Option Expr} {l : Nat} {env : Env} (h : nocomp e = true) : swapsWith e t l env = pure false := by
  cases e <;> first | rfl | cases h
/-- a plain truth -/
def plainT : Expr → Bool
  | .UnaryOp .Not _ _ => false
  | .BoolOp .. => false
  | .IfExp .. => false
  | .Compare .. => false
  | _ => true
theorem truthT {e : Expr} {env : Env} (h : plainT e = true) (whole : Sem Value) : isTrue e env whole = (do let v ← whole; standAt e.pos; holding [v] (PySem.truthy v)) := by
  cases e with
  | UnaryOp op a p => cases op <;> first | rfl | cases h
  | BoolOp _ _ _ => cases h
  | IfExp _ _ _ _ => cases h
  | Compare _ _ _ _ => cases h
  | _ => rfl
/-- a plain index -/
def plainIx : Expr → Bool
  | .Slice .. => false
  | _ => true
/-! ### exceptions -/
/-- self.f = f -/
def keepSt (self f : Str) (s : Stmt) : Prop := ∃ p0 p1 p2 p3, s = .Assign [.Attribute (.Name self p0) f p1] (.Name f p2) p3
def srcUp : Src → Src
  | .pos i => .pos (i + 1)
  | .kw i => .kw i
  | .con d => .con d
/-- with self ahead, the sources in the parameters' order -/
def shpUp (p : (Nat × List Str) × List Src) : (Nat × List Str) × List Src := ((p.1.1 + 1, p.1.2), .pos 0 :: p.2.reverse.map srcUp)
/-- an own __init__ that keeps its arguments -/
def ExcDef (K : PySem.W.Frag) (e : List Str × Shp) (a : Addr) : Prop := ∃ (f : Addr) (qual : Str) (params : Arguments) (body : List Stmt) (scope : Scope) (self : Str) (fd : FuncData),
  PySem.W.findIn K (.ref a) "__init__" = some (some (.ref f)) ∧ PySem.W.typeIn K (.ref f) = some (.type "function") ∧ FunD K "__init__" qual params body scope [] [] f fd ∧ FnScope (self :: e.1.reverse) (self :: e.1.reverse) scope ∧
  e.1 ≠ [] ∧ e.1.length ≤ 100 ∧ (∀ p ∈ e.2, p.1.1 ≤ 100) ∧ (∀ r ∈ self :: e.1.reverse, (r == ("__debug__" : Str)) = false ∧ (r == ("__classdict__" : Str)) = false) ∧ (∀ r ∈ e.1.reverse, NoAttr K a r) ∧ Paired (keepSt self) e.1.reverse body ∧ ShpOk K fd (self :: e.1.reverse) (e.2.map shpUp)
/-! ### what stands around -/
/-- a def of the table stands in the written part -/
structure FnF (P : Program) (w : World) (K : PySem.W.Frag) (mg : Str → Option Value) (base : Heap) (CA : Str → Option Addr) (k : Nat) (d : FDef) (f : Addr) (g : List D → Sto → Out D) : Prop where
  ok : ∃ fd, FnA P w K mg base k f fd d.ps (spR K CA d.ps.length g) ∧ ShpOk K fd d.ps d.shp
/-- the built-in types by their names -/
def btys : List (Str × String) := [("NoneType", "NoneType"), ("bool", "bool"), ("int", "int"), ("str", "str"), ("tuple", "tuple"), ("list", "list"), ("dict", "dict"), ("ValueError", "ValueError"), ("LookupError", "LookupError"), ("ArithmeticError", "ArithmeticError")]
def tyV (CA : Str → Option Addr) (t : Str) : Option Value :=
  match btys.lookup t with
  | some n => some (.type n)
  | none => (CA t).map .ref
/-- what isinstance asks of an own class -/
structure IsiC (K : PySem.W.Frag) (a : Addr) : Prop where
  ha : PySem.W.findIn K (.ref a) "__class__" = some (some (.builtin "object.__class__"))
  hn : PySem.W.specialIn K (.builtin "object.__class__") "__get__" = some (some (.builtin "getset_descriptor.__get__"))
  ht : PySem.W.takesIn K (.builtin "object.__class__") = some true
  hm : PySem.W.mroIn K a (.type "object") = some true
/-- a class of instances -/
structure InsK (K : PySem.W.Frag) (FA : Str → Option Addr) (c : CDef) (a : Addr) : Prop where
  cls : Cls K a
  isi : IsiC K a
  meth : ∀ m f, c.meths.lookup m = some f → ∃ fa, FA f = some fa ∧ Meth K a m fa
  mkr : ∀ f, c.meths.lookup ("__init__" : Str) = some f → ∃ fa, FA f = some fa ∧ Mk K a fa
  prop : ∀ m f, c.props.lookup m = some f → ∃ fa p, FA f = some fa ∧ PropOf K a m p fa
/-- an exception class over a built-in one -/
structure ExcB (K : PySem.W.Frag) (a : Addr) : Prop where
  isi : IsiC K a
  cl : (PySem.W.clsIn K a).isSome = true
  ga : PySem.W.findIn K (.ref a) "__getattribute__" = some (some (.builtin "BaseException.__getattribute__"))
  gg : PySem.W.findIn K (.ref a) "__getattr__" = some none
  sa : PySem.W.findIn K (.ref a) "__setattr__" = some (some (.builtin "object.__setattr__"))
  exC : PySem.W.subIn K (.ref a) (.type "BaseException") = some true
  hdC : PySem.W.hasDictIn K a = true
  tyC : PySem.W.typeIn K (.ref a) = some (.type "type")
/-- how it is made: by its own def, which keeps what it is given; by the built-in one -/
structure ExcK (K : PySem.W.Frag) (e : List Str × Shp) (a : Addr) : Prop where
  b : ExcB K a
  base : ∃ B newId initId bmB, ExcBaseFacts B newId initId bmB ∧ StoreFacts B bmB "object.__setattr__" "object" ∧
    ((e.1 = [] ∧ e.2 = [((0, []), [])] ∧ PySem.W.excIn K a bmB newId = true) ∨ (e.1 ≠ [] ∧ PySem.W.excInitIn K a bmB newId = true ∧ PySem.W.excOver K a bmB = true ∧ ExcDef K e a))
/-- the table's facts: R k is what a def does, for calls from a level k -/
structure GF (P : Program) (w : World) (K : PySem.W.Frag) (mg : Str → Option Value) (base : Heap) (CA : Str → Option Addr) (T : Tab) (FA : Str → Option Addr) (blts : List Str) (k : Nat) (R : Str → List D → Sto → Out D) : Prop where
  /-- each def at its address -/
  fn : ∀ f d, T.fn.lookup f = some d → ∃ a, FA f = some a ∧ FnF P w K mg base CA k d a (R f)
  /-- a def of the module -/
  glo : ∀ f a, FA f = some a → f.cps.contains 46 = false → mg f = some (.ref a) ∧ PySem.W.keepIn K (.ref a) = true
  con : ∀ x d, T.con.lookup x = some d → ∃ v u, mg x = some u ∧ RelV v u ∧ ∀ ρ H, RD K CA ρ H d v
  blt : ∀ x, x ∈ blts → mg x = none
  cls : ∀ C c, T.cls.lookup C = some c → ∃ a, CA C = some a ∧ mg C = some (.ref a) ∧ PySem.W.keepIn K (.ref a) = true ∧ btys.lookup C = none ∧ (∀ f, c.flds.contains f = true → NoAttr K a f) ∧ (c.exc = none → InsK K FA c a) ∧ ∀ e, c.exc = some e → ExcK K e a
  isi : ∀ t c, T.tn.contains t = true → T.cn.contains c = true → ∃ tv cv, tyV CA t = some tv ∧ tyV CA c = some cv ∧ PySem.W.kitOne K tv cv = some ((mroOf T t).contains c) ∧ (∀ n, cv = .type n → mg c = none ∧ bootBuiltins c = some (.type n) ∧ (c == ("__debug__" : Str)) = false ∧ c ≠ "__name__") ∧ ∀ a, cv = .ref a → mg c = some (.ref a) ∧ (c == ("__debug__" : Str)) = false
/-- the context of a body, a block -/
structure Bd (X : Cx) (CA : Str → Option Addr) (T : Tab) (FA : Str → Option Addr) (blts : List Str) (k : Nat) (R : Str → List D → Sto → Out D) (W : WX) : Prop where
  calm : X.calm = true
  nd : X.N.Nodup
  tk : Takes X W
  rm : Rm (k + 2) X.A
  g : GF X.prog X.w X.K X.mg X.base CA T FA blts k R
theorem Bd.hu {X : Cx} {CA : Str → Option Addr} {T : Tab} {FA : Str → Option Addr} {blts : List Str} {k : Nat} {R : Str → List D → Sto → Out D} {W : WX} (b : Bd X CA T FA blts k R W) : X.A.units + 70 < cLine := by
  have := b.rm.room.un
  omega
section
variable {X : Cx} {CA : Str → Option Addr} {T : Tab} {FA : Str → Option Addr} {blts : List Str} {k : Nat} {R : Str → List D → Sto → Out D} {W : WX}
abbrev SE (X : Cx) (CA : Str → Option Addr) (T : Tab) (R : Str → List D → Sto → Out D) (W : WX) (e : Expr) (x : Am.X) : Prop := PE X e (tM X.K CA W (PD X.K CA) (evE T R x))
abbrev SEs (X : Cx) (CA : Str → Option Addr) (T : Tab) (R : Str → List D → Sto → Out D) (W : WX) (es : List Expr) (xs : Xs) : Prop := PA X es (tM X.K CA W (PDs X.K CA) (evs T R xs))
abbrev SK (X : Cx) (CA : Str → Option Addr) (T : Tab) (R : Str → List D → Sto → Out D) (W : WX) (es : List Keyword) (xs : Xs) : Prop := PK X es (tM X.K CA W (PDs X.K CA) (evs T R xs))
/-- a truth -/
def evB (T : Tab) (R : Str → List D → Sto → Out D) (x : Am.X) : Loc → Sto → Out Bool := fun L S => (evE T R x L S).bind fun d S1 => lift S1 (truthy S1 d)
abbrev ST (X : Cx) (CA : Str → Option Addr) (T : Tab) (R : Str → List D → Sto → Out D) (W : WX) (e : Expr) (x : Am.X) : Prop := PT X e (tM X.K CA W PB (evB T R x))
abbrev SO (X : Cx) (CA : Str → Option Addr) (T : Tab) (R : Str → List D → Sto → Out D) (W : WX) (e : Option Expr) (x : Ox) : Prop := PO X e (tM X.K CA W PO_ (evO T R x))
theorem se_var {i : Nat} {x : Str} {pos : Pos} (hN : X.N[i]? = some x) (hv : Vis X.env.scope x) (hd : (x == ("__debug__" : Str)) = false) (hcd : (x == ("__classdict__" : Str)) = false) : SE X CA T R W (.Name x pos) (.var i) := by
  refine peI (pe_var hN hv hd hcd) fun σ H Q ⟨ρ, L, S, r, l, h⟩ => ?_
  simp only [evE] at h
  split at h
  · rename_i d e
    obtain ⟨v, e1, hv⟩ := l.2 i d e
    exact ⟨v, e1, Good.ok h r hv⟩
  · exact h.elim
theorem se_non {j : Nat} {pos : Pos} : SE X CA T R W (.Constant .none j pos) (.con .non) := peI pe_non fun σ H Q ⟨ρ, L, S, r, l, h⟩ => good_ok (by simpa only [evE] using h) r mk_non
theorem se_bl {b : Bool} {j : Nat} {pos : Pos} : SE X CA T R W (.Constant (.bool b) j pos) (.con (.bl b)) := peI pe_bl fun σ H Q ⟨ρ, L, S, r, l, h⟩ => good_ok (by simpa only [evE] using h) r mk_bl
theorem se_int {b : Int} {j : Nat} {pos : Pos} : SE X CA T R W (.Constant (.int b) j pos) (.con (.int b)) := peI pe_int fun σ H Q ⟨ρ, L, S, r, l, h⟩ => good_ok (by simpa only [evE] using h) r mk_int
theorem se_str {b : Str} {j : Nat} {pos : Pos} : SE X CA T R W (.Constant (.str b) j pos) (.con (.str b)) := peI pe_str fun σ H Q ⟨ρ, L, S, r, l, h⟩ => good_ok (by simpa only [evE] using h) r mk_str
theorem se_glob (b : Bd X CA T FA blts k R W) {x : Str} {pos : Pos} {d : D} (hg : Gl X x) (e : T.con.lookup x = some d) (hd : (x == ("__debug__" : Str)) = false) : SE X CA T R W (.Name x pos) (.glob x) := by
  obtain ⟨v, u, hm, rv, hr⟩ := b.g.con x d e
  refine peI (pe_glob hg hm rv hd) fun σ H Q ⟨ρ, L, S, r, l, h⟩ => ?_
  simp only [evE] at h
  rw [e] at h
  exact Good.ok h r (hr ρ H)
theorem se_bin {o : Bop} {a c : Expr} {x y : Am.X} {pos : Pos} (ha : SE X CA T R W a x) (hb : SE X CA T R W c y) : SE X CA T R W (.BinOp a (bopOf o) c pos) (.bin o x y) := by
  refine peI (pe_op (op_binG (CA := CA) o) ha hb) fun σ H Q ⟨ρ, L, S, r, l, h⟩ => ?_
  simp only [evE] at h
  refine step1 r l h fun ρ1 d1 S1 v1 H1 g1 r1 l1 p1 h1 => ?_
  refine step1 r1 l1 h1 fun ρ2 d2 S2 v2 H2 g2 r2 l2 p2 h2 => ?_
  exact ⟨ρ2, S2, d1, d2, W, σ, r2, RD.grow g2 _ _ p1, p2, h2⟩
theorem se_neg {a : Expr} {x : Am.X} {pos : Pos} (ha : SE X CA T R W a x) : SE X CA T R W (.UnaryOp .USub a pos) (.neg x) := by
  refine peI (pe_un un_neg ha) fun σ H Q ⟨ρ, L, S, r, l, h⟩ => ?_
  simp only [evE] at h
  refine step1 r l h fun ρ1 d1 S1 v1 H1 g1 r1 l1 p1 h1 => ?_
  split at h1
  · cases rd_int p1
    exact ⟨_, rfl, Good.ok h1 r1 mk_int⟩
  · exact h1.elim
theorem se_cmp (b : Bd X CA T FA blts k R W) {o : Cop} {a c : Expr} {x y : Am.X} {pos : Pos} (ha : SE X CA T R W a x) (hb : SE X CA T R W c y) (hm : behindInMarks (copOf o) c = false) : SE X CA T R W (.Compare a [copOf o] [c] pos) (.cmp o x y) := by
  refine peI (pe_cmpR (op_cmpG (CA := CA) o (by have := b.hu; omega)) ha hb hm) fun σ H Q ⟨ρ, L, S, r, l, h⟩ => ?_
  simp only [evE] at h
  refine step1 r l h fun ρ1 d1 S1 v1 H1 g1 r1 l1 p1 h1 => ?_
  refine step1 r1 l1 h1 fun ρ2 d2 S2 v2 H2 g2 r2 l2 p2 h2 => ?_
  obtain ⟨d, e, h3⟩ := good_lift h2
  cases hc : cmpD o S2 d1 d2 with
  | none => rw [hc] at e; cases e
  | some kb =>
    rw [hc] at e
    cases e
    exact ⟨ρ2, S2, d1, d2, kb, r2, RD.grow g2 _ _ p1, p2, hc, Good.ok h3 r2 mk_bl⟩
theorem se_chain (b : Bd X CA T FA blts k R W) {o o' : Cop} {a c e : Expr} {x y z : Am.X} {pos : Pos} (ha : SE X CA T R W a x) (hb : SE X CA T R W c y) (hc : SE X CA T R W e z) (hm : behindInMarks (copOf o') e = false) : SE X CA T R W (.Compare a [copOf o, copOf o'] [c, e] pos) (.chain o o' x y z) := by
  refine peI (pe_chain (op_cmpG (CA := CA) o (by have := b.hu; omega)) (op_cmpG (CA := CA) o' (by have := b.hu; omega)) ha hb hc hm) fun σ H Q ⟨ρ, L, S, r, l, h⟩ => ?_
  simp only [evE] at h
  refine step1 r l h fun ρ1 d1 S1 v1 H1 g1 r1 l1 p1 h1 => ?_
  refine step1 r1 l1 h1 fun ρ2 d2 S2 v2 H2 g2 r2 l2 p2 h2 => ?_
  obtain ⟨kb, ek, h3⟩ := good_liftB h2
  refine ⟨ρ2, S2, d1, d2, kb, r2, RD.grow g2 _ _ p1, p2, ek, kb, rfl, ?_⟩
  cases kb with
  | true =>
    simp only [if_true] at h3 ⊢
    refine step1 r2 l2 h3 fun ρ3 d3 S3 v3 H3 g3 r3 l3 p3 h4 => ?_
    obtain ⟨d, e5, h5⟩ := good_lift h4
    cases hc : cmpD o' S3 d2 d3 with
    | none => rw [hc] at e5; cases e5
    | some kb =>
      rw [hc] at e5
      cases e5
      exact ⟨ρ3, S3, d2, d3, kb, r3, RD.grow g3 _ _ p2, p3, hc, Good.ok h5 r3 mk_bl⟩
  | false =>
    simp only [Bool.false_eq_true, if_false] at h3 ⊢
    exact Good.ok h3 r2 mk_bl
theorem se_one {op : BoolOp} {a : Expr} {x : Am.X} {pos : Pos} (h : SE X CA T R W a x) : SE X CA T R W (.BoolOp op [a] pos) x := pe_one h
theorem se_or {a c : Expr} {rest : List Expr} {x y : Am.X} {pos : Pos} (ha : SE X CA T R W a x) (hb : SE X CA T R W (.BoolOp .Or (c :: rest) pos) y) : SE X CA T R W (.BoolOp .Or (a :: c :: rest) pos) (.or x y) := by
  refine peI (pe_orT ha hb) fun σ H Q ⟨ρ, L, S, r, l, h⟩ => ?_
  simp only [evE] at h
  refine step1 r l h fun ρ1 d1 S1 v1 H1 g1 r1 l1 p1 h1 => ?_
  obtain ⟨kb, ek, h3⟩ := good_liftB h1
  refine ⟨kb, tru_of r1 p1 ek, ?_⟩
  cases kb with
  | true => simp only [if_true] at h3 ⊢; exact Good.ok h3 r1 p1
  | false => simp only [Bool.false_eq_true, if_false] at h3 ⊢; exact ⟨ρ1, L, S1, r1, l1, h3⟩
theorem se_and {a c : Expr} {rest : List Expr} {x y : Am.X} {pos : Pos} (ha : SE X CA T R W a x) (hb : SE X CA T R W (.BoolOp .And (c :: rest) pos) y) : SE X CA T R W (.BoolOp .And (a :: c :: rest) pos) (.and x y) := by
  refine peI (pe_andT ha hb) fun σ H Q ⟨ρ, L, S, r, l, h⟩ => ?_
  simp only [evE] at h
  refine step1 r l h fun ρ1 d1 S1 v1 H1 g1 r1 l1 p1 h1 => ?_
  obtain ⟨kb, ek, h3⟩ := good_liftB h1
  refine ⟨kb, tru_of r1 p1 ek, ?_⟩
  cases kb with
  | false => simp only [Bool.false_eq_true, if_false] at h3 ⊢; exact Good.ok h3 r1 p1
  | true => simp only [if_true] at h3 ⊢; exact ⟨ρ1, L, S1, r1, l1, h3⟩
theorem se_not {a : Expr} {x : Am.X} {pos : Pos} (ha : SE X CA T R W a x) : SE X CA T R W (.UnaryOp .Not a pos) (.not x) := by
  refine peI (pe_notT ha) fun σ H Q ⟨ρ, L, S, r, l, h⟩ => ?_
  simp only [evE] at h
  refine step1 r l h fun ρ1 d1 S1 v1 H1 g1 r1 l1 p1 h1 => ?_
  obtain ⟨d, e, h3⟩ := good_lift h1
  cases hc : truthy S1 d1 with
  | none => rw [hc] at e; cases e
  | some kb =>
    rw [hc] at e
    cases e
    exact ⟨kb, tru_of r1 p1 hc, Good.ok h3 r1 mk_bl⟩
/-! truths -/
theorem st_plain {a : Expr} {x : Am.X} (ha : SE X CA T R W a x) (h : plainT a = true) : ST X CA T R W a x := by
  refine ptI (pt_truth ha (truthT h)) fun σ H Q ⟨ρ, L, S, r, l, h⟩ => ?_
  unfold evB at h
  refine step1 r l h fun ρ1 d1 S1 v1 H1 g1 r1 l1 p1 h1 => ?_
  obtain ⟨kb, ek, h3⟩ := good_lift h1
  exact ⟨kb, tru_of r1 p1 ek, Good.ok h3 r1 rfl⟩
theorem evB_bl {x : Am.X} {L : Loc} {S : Sto} {o : Out D} {f : D → Sto → Option Bool} (e : evE T R x L S = o.bind fun d S1 => lift S1 ((f d S1).map D.bl)) : evB T R x L S = o.bind fun d S1 => lift S1 (f d S1) := by
  unfold evB
  rw [e]
  cases o with
  | ok d S1 =>
    show (lift S1 ((f d S1).map D.bl)).bind _ = lift S1 (f d S1)
    cases f d S1 with
    | none => rfl
    | some kb => rfl
  | exc e S1 => rfl
  | bad => rfl
theorem st_not {a : Expr} {x : Am.X} {pos : Pos} (ha : ST X CA T R W a x) : ST X CA T R W (.UnaryOp .Not a pos) (.not x) := by
  refine ⟨fun pins s σ H Q I h => wpAny_isTrue_Not (thn (ha.run pins s σ H (fun c H1 => Q (!c) H1) I ?_) fun _ _ q => q)⟩
  obtain ⟨ρ, L, S, r, l, h⟩ := h
  refine ⟨ρ, L, S, r, l, ?_⟩
  unfold evB at h ⊢
  simp only [evE] at h
  cases o : evE T R x L S with
  | bad => rw [o] at h; exact h.elim
  | exc e S1 => rw [o] at h; exact h
  | ok d S1 =>
    rw [o] at h
    simp only [Out.ok_bind] at h ⊢
    cases hc : truthy S1 d with
    | none => rw [hc] at h; exact h.elim
    | some kb =>
      rw [hc] at h
      intro ρ' v H' g r' e
      cases e
      exact h ρ' (!kb) H' g r' rfl
end
end Am
set_option maxHeartbeats 1000000
/-! Am6: tests, displays, subscripts, calls by the machine. -/
namespace Am
open PySem PySem.Spec PyProof.Rows L2
section
variable {X : Cx} {CA : Str → Option Addr} {T : Tab} {FA : Str → Option Addr} {blts : List Str} {k : Nat} {R : Str → List D → Sto → Out D} {W : WX}
abbrev STW (X : Cx) (CA : Str → Option Addr) (T : Tab) (R : Str → List D → Sto → Out D) (W : WX) (e : Expr) (x : Am.X) : Prop := PW X e (tM X.K CA W PB (evB T R x))
theorem evB_and {x y : Am.X} {L : Loc} {S : Sto} : evB T R (.and x y) L S = (evB T R x L S).bind fun kb S1 => if kb = true then evB T R y L S1 else .ok false S1 := by
  unfold evB
  simp only [evE]
  cases evE T R x L S with
  | bad => rfl
  | exc e S1 => rfl
  | ok d S1 =>
    simp only [Out.ok_bind]
    cases h : truthy S1 d with
    | none => rfl
    | some kb =>
      simp only [lift_some, Out.ok_bind]
      cases kb with
      | true => rfl
      | false => simp [h]
theorem evB_or {x y : Am.X} {L : Loc} {S : Sto} : evB T R (.or x y) L S = (evB T R x L S).bind fun kb S1 => if kb = true then .ok true S1 else evB T R y L S1 := by
  unfold evB
  simp only [evE]
  cases evE T R x L S with
  | bad => rfl
  | exc e S1 => rfl
  | ok d S1 =>
    simp only [Out.ok_bind]
    cases h : truthy S1 d with
    | none => rfl
    | some kb =>
      simp only [lift_some, Out.ok_bind]
      cases kb with
      | false => rfl
      | true => simp [h]
theorem evB_ite {c x y : Am.X} {L : Loc} {S : Sto} : evB T R (.ite c x y) L S = (evB T R c L S).bind fun kb S1 => if kb = true then evB T R x L S1 else evB T R y L S1 := by
  unfold evB
  simp only [evE]
  cases evE T R c L S with
  | bad => rfl
  | exc e S1 => rfl
  | ok d S1 =>
    simp only [Out.ok_bind]
    cases h : truthy S1 d with
    | none => rfl
    | some kb => cases kb <;> simp
theorem st_of_sw {e : Expr} {x : Am.X} (h : STW X CA T R W e x) : ST X CA T R W e x := h.pt
theorem sw_and1 {a : Expr} {x : Am.X} {pos : Pos} (h : ST X CA T R W a x) : STW X CA T R W (.BoolOp .And [a] pos) x := pw_and1 h
theorem sw_or1 {a : Expr} {x : Am.X} {pos : Pos} (h : ST X CA T R W a x) : STW X CA T R W (.BoolOp .Or [a] pos) x := pw_or1 h
theorem sw_and {a c : Expr} {rest : List Expr} {x y : Am.X} {pos : Pos} (ha : ST X CA T R W a x) (hb : STW X CA T R W (.BoolOp .And (c :: rest) pos) y) : STW X CA T R W (.BoolOp .And (a :: c :: rest) pos) (.and x y) := by
  refine pwI (pw_and ha hb) fun σ H Q ⟨ρ, L, S, r, l, h⟩ => ?_
  rw [evB_and] at h
  refine step1 r l h fun ρ1 d1 S1 v1 H1 g1 r1 l1 p1 h1 => ?_
  cases p1
  cases d1 with
  | true => simp only [if_true] at h1 ⊢; exact ⟨ρ1, L, S1, r1, l1, h1⟩
  | false => simp only [Bool.false_eq_true, if_false] at h1 ⊢; exact Good.ok h1 r1 rfl
theorem sw_or {a c : Expr} {rest : List Expr} {x y : Am.X} {pos : Pos} (ha : ST X CA T R W a x) (hb : STW X CA T R W (.BoolOp .Or (c :: rest) pos) y) : STW X CA T R W (.BoolOp .Or (a :: c :: rest) pos) (.or x y) := by
  refine pwI (pw_or ha hb) fun σ H Q ⟨ρ, L, S, r, l, h⟩ => ?_
  rw [evB_or] at h
  refine step1 r l h fun ρ1 d1 S1 v1 H1 g1 r1 l1 p1 h1 => ?_
  cases p1
  cases d1 with
  | false => simp only [Bool.false_eq_true, if_false] at h1 ⊢; exact ⟨ρ1, L, S1, r1, l1, h1⟩
  | true => simp only [if_true] at h1 ⊢; exact Good.ok h1 r1 rfl
theorem st_cmp (b : Bd X CA T FA blts k R W) {o : Cop} {a c : Expr} {x y : Am.X} {pos : Pos} (ha : SE X CA T R W a x) (hb : SE X CA T R W c y) (hm : behindInMarks (copOf o) c = false) : ST X CA T R W (.Compare a [copOf o] [c] pos) (.cmp o x y) := by
  refine ptI (pt_cmpR (op_cmpG (CA := CA) o (by have := b.hu; omega)) ha hb hm) fun σ H Q ⟨ρ, L, S, r, l, h⟩ => ?_
  unfold evB at h
  simp only [evE] at h
  have h' : Good X.K CA W PB ((evE T R x L S).bind fun x S1 => (evE T R y L S1).bind fun y S2 => lift S2 (cmpD o S2 x y)) ρ σ H Q := by
    cases e1 : evE T R x L S with
    | bad => rw [e1] at h; exact h
    | exc e S1 => rw [e1] at h; exact h
    | ok d S1 =>
      rw [e1] at h
      simp only [Out.ok_bind] at h ⊢
      cases e2 : evE T R y L S1 with
      | bad => rw [e2] at h; exact h
      | exc e S1 => rw [e2] at h; exact h
      | ok d2 S2 =>
        rw [e2] at h
        simp only [Out.ok_bind] at h ⊢
        cases e3 : cmpD o S2 d d2 with
        | none => rw [e3] at h; exact h
        | some kb => rw [e3] at h; exact h
  refine step1 r l h' fun ρ1 d1 S1 v1 H1 g1 r1 l1 p1 h1 => ?_
  refine step1 r1 l1 h1 fun ρ2 d2 S2 v2 H2 g2 r2 l2 p2 h2 => ?_
  obtain ⟨d, e, h3⟩ := good_lift h2
  exact ⟨ρ2, S2, d1, d2, d, r2, RD.grow g2 _ _ p1, p2, e, d, rfl, Good.ok h3 r2 rfl⟩
theorem st_chain (b : Bd X CA T FA blts k R W) {o o' : Cop} {a c e : Expr} {x y z : Am.X} {pos : Pos} (ha : SE X CA T R W a x) (hb : SE X CA T R W c y) (hc : SE X CA T R W e z) (hm : behindInMarks (copOf o') e = false) : ST X CA T R W (.Compare a [copOf o, copOf o'] [c, e] pos) (.chain o o' x y z) := by
  refine ptI (pt_chain (op_cmpG (CA := CA) o (by have := b.hu; omega)) (op_cmpG (CA := CA) o' (by have := b.hu; omega)) ha hb hc hm) fun σ H Q ⟨ρ, L, S, r, l, h⟩ => ?_
  unfold evB at h
  simp only [evE] at h
  have h' : Good X.K CA W PB ((evE T R x L S).bind fun x S1 => (evE T R y L S1).bind fun y S2 => (lift S2 (cmpD o S2 x y)).bind fun kb S2 => if kb = true then (evE T R z L S2).bind fun z S3 => lift S3 (cmpD o' S3 y z) else .ok false S2) ρ σ H Q := by
    cases e1 : evE T R x L S with
    | bad => rw [e1] at h; exact h
    | exc e S1 => rw [e1] at h; exact h
    | ok d S1 =>
      rw [e1] at h
      simp only [Out.ok_bind] at h ⊢
      cases e2 : evE T R y L S1 with
      | bad => rw [e2] at h; exact h
      | exc e S1 => rw [e2] at h; exact h
      | ok d2 S2 =>
        rw [e2] at h
        simp only [Out.ok_bind] at h ⊢
        cases e3 : cmpD o S2 d d2 with
        | none => rw [e3] at h; exact h
        | some kb =>
          rw [e3] at h
          simp only [lift_some, Out.ok_bind] at h ⊢
          cases kb with
          | false => exact h
          | true =>
            simp only [if_true] at h ⊢
            cases e4 : evE T R z L S2 with
            | bad => rw [e4] at h; exact h
            | exc e S1 => rw [e4] at h; exact h
            | ok d3 S3 =>
              rw [e4] at h
              simp only [Out.ok_bind] at h ⊢
              cases e5 : cmpD o' S3 d2 d3 with
              | none => rw [e5] at h; exact h
              | some kb => rw [e5] at h; exact h
  refine step1 r l h' fun ρ1 d1 S1 v1 H1 g1 r1 l1 p1 h1 => ?_
  refine step1 r1 l1 h1 fun ρ2 d2 S2 v2 H2 g2 r2 l2 p2 h2 => ?_
  obtain ⟨kb, ek, h3⟩ := good_liftB h2
  refine ⟨ρ2, S2, d1, d2, kb, r2, RD.grow g2 _ _ p1, p2, ek, kb, rfl, ?_⟩
  cases kb with
  | true =>
    simp only [if_true] at h3 ⊢
    refine step1 r2 l2 h3 fun ρ3 d3 S3 v3 H3 g3 r3 l3 p3 h4 => ?_
    obtain ⟨d, e5, h5⟩ := good_lift h4
    exact ⟨ρ3, S3, d2, d3, d, r3, RD.grow g3 _ _ p2, p3, e5, d, rfl, Good.ok h5 r3 rfl⟩
  | false =>
    simp only [Bool.false_eq_true, if_false] at h3 ⊢
    exact ⟨false, rfl, Good.ok h3 r2 rfl⟩
theorem se_ite {c a e : Expr} {x y z : Am.X} {pos : Pos} (hc : ST X CA T R W c x) (ha : SE X CA T R W a y) (hb : SE X CA T R W e z) : SE X CA T R W (.IfExp c a e pos) (.ite x y z) := by
  refine peI (pe_ifExp hc ha hb) fun σ H Q ⟨ρ, L, S, r, l, h⟩ => ?_
  simp only [evE] at h
  have h' : Good X.K CA W (PD X.K CA) ((evB T R x L S).bind fun kb S1 => if kb = true then evE T R y L S1 else evE T R z L S1) ρ σ H Q := by
    unfold evB
    cases e1 : evE T R x L S with
    | bad => rw [e1] at h; exact h
    | exc e S1 => rw [e1] at h; exact h
    | ok d S1 =>
      rw [e1] at h
      simp only [Out.ok_bind] at h ⊢
      cases e3 : truthy S1 d with
      | none => rw [e3] at h; exact h
      | some kb => rw [e3] at h; exact h
  refine step1 r l h' fun ρ1 d1 S1 v1 H1 g1 r1 l1 p1 h1 => ?_
  cases p1
  cases d1 with
  | true => simp only [if_true] at h1 ⊢; exact ⟨ρ1, L, S1, r1, l1, h1⟩
  | false => simp only [Bool.false_eq_true, if_false] at h1 ⊢; exact ⟨ρ1, L, S1, r1, l1, h1⟩
/-! ### lists of expressions -/
theorem ses_nil : SEs X CA T R W [] .nil := paI pa_nil fun σ H Q ⟨ρ, L, S, r, l, h⟩ => Good.ok (P := PDs X.K CA) (by simpa only [evs] using h) r RDs.nil
theorem ses_cons {e : Expr} {es : List Expr} {x : Am.X} {xs : Xs} (h : nostar e = true) (he : SE X CA T R W e x) (hs : SEs X CA T R W es xs) : SEs X CA T R W (e :: es) (.cons x xs) := by
  refine paI (pa_cons he hs (star1 h)) fun σ H Q ⟨ρ, L, S, r, l, h⟩ => ?_
  simp only [evs] at h
  refine step1 r l h fun ρ1 d1 S1 v1 H1 g1 r1 l1 p1 h1 => ?_
  refine step1 r1 l1 h1 fun ρ2 d2 S2 v2 H2 g2 r2 l2 p2 h2 => ?_
  exact Good.ok (P := PDs X.K CA) h2 r2 (RDs.cons (RD.grow g2 _ _ p1) p2)
theorem sk_nil : SK X CA T R W [] .nil := pkI pk_nil fun σ H Q ⟨ρ, L, S, r, l, h⟩ => Good.ok (P := PDs X.K CA) (by simpa only [evs] using h) r RDs.nil
theorem sk_cons {nm : Option Str} {e : Expr} {kpos : Pos} {es : List Keyword} {x : Am.X} {xs : Xs} (he : SE X CA T R W e x) (hs : SK X CA T R W es xs) : SK X CA T R W (⟨nm, e, kpos⟩ :: es) (.cons x xs) := by
  refine pkI (pk_cons he hs) fun σ H Q ⟨ρ, L, S, r, l, h⟩ => ?_
  simp only [evs] at h
  refine step1 r l h fun ρ1 d1 S1 v1 H1 g1 r1 l1 p1 h1 => ?_
  refine step1 r1 l1 h1 fun ρ2 d2 S2 v2 H2 g2 r2 l2 p2 h2 => ?_
  exact Good.ok (P := PDs X.K CA) h2 r2 (RDs.cons (RD.grow g2 _ _ p1) p2)
theorem so_no : SO X CA T R W none .no := poI po_none fun σ H Q ⟨ρ, L, S, r, l, h⟩ => Good.ok (P := PO_) (by simpa only [evO] using h) r rfl
theorem so_so {e : Expr} {x : Am.X} (he : SE X CA T R W e x) : SO X CA T R W (some e) (.so x) := by
  refine poI (po_some he) fun σ H Q ⟨ρ, L, S, r, l, h⟩ => ?_
  simp only [evO] at h
  refine step1 r l h fun ρ1 d1 S1 v1 H1 g1 r1 l1 p1 h1 => ?_
  split at h1
  · cases rd_int p1
    exact ⟨_, rfl, Good.ok (P := PO_) h1 r1 rfl⟩
  · exact h1.elim
theorem se_tup {es : List Expr} {xs : Xs} {j : Nat} {pos : Pos} (hs : SEs X CA T R W es xs) : SE X CA T R W (.Tuple es j pos) (.tup xs) := by
  refine peI (pe_tup hs) fun σ H Q ⟨ρ, L, S, r, l, h⟩ => ?_
  simp only [evE] at h
  refine step1 r l h fun ρ1 d1 S1 v1 H1 g1 r1 l1 p1 h1 => ?_
  have q1 : RDs X.K CA ρ1 H1 d1 v1 := p1
  split at h1
  · rename_i hz
    exact ⟨by rw [← lim_eq, ← q1.length]; exact hz, fun p hp => good_tup h1 r1 q1 hp⟩
  · exact h1.elim
theorem se_lst {es : List Expr} {xs : Xs} {pos : Pos} (hs : SEs X CA T R W es xs) : SE X CA T R W (.List es pos) (.lst xs) := by
  refine peI (pe_lst hs) fun σ H Q ⟨ρ, L, S, r, l, h⟩ => ?_
  simp only [evE] at h
  refine step1 r l h fun ρ1 d1 S1 v1 H1 g1 r1 l1 p1 h1 => ?_
  have q1 : RDs X.K CA ρ1 H1 d1 v1 := p1
  split at h1
  · rename_i hz
    exact ⟨by rw [← lim_eq, ← q1.length]; exact hz, fun p hp => good_lst h1 r1 q1 hp⟩
  · exact h1.elim
theorem se_ix {a c : Expr} {x y : Am.X} {pos : Pos} (ha : SE X CA T R W a x) (hb : SE X CA T R W c y) (hs : PlainIx c) : SE X CA T R W (.Subscript a c pos) (.ix x y) := by
  refine peI (pe_ix (ix_G (CA := CA)) ha hb hs) fun σ H Q ⟨ρ, L, S, r, l, h⟩ => ?_
  simp only [evE] at h
  refine step1 r l h fun ρ1 d1 S1 v1 H1 g1 r1 l1 p1 h1 => ?_
  refine step1 r1 l1 h1 fun ρ2 d2 S2 v2 H2 g2 r2 l2 p2 h2 => ?_
  obtain ⟨d, e, h3⟩ := good_lift h2
  exact ⟨ρ2, S2, d1, d2, d, r2, RD.grow g2 _ _ p1, p2, e, fun v hv => good_ok h3 r2 hv⟩
theorem se_sl {a : Expr} {lo hi : Option Expr} {x : Am.X} {l h : Ox} {pos p2 : Pos} (ha : SE X CA T R W a x) (hl : SO X CA T R W lo l) (hh : SO X CA T R W hi h) : SE X CA T R W (.Subscript a (.Slice lo hi none p2) pos) (.sl x l h) := by
  refine peI (pe_slice (sl_G (CA := CA)) ha hl hh) fun σ H Q ⟨ρ, L, S, r, l, h⟩ => ?_
  simp only [evE] at h
  refine step1 r l h fun ρ1 d1 S1 v1 H1 g1 r1 l1 p1 h1 => ?_
  refine step1 r1 l1 h1 fun ρ2 d2 S2 v2 H2 g2 r2 l2 p2 h2 => ?_
  refine step1 r2 l2 h2 fun ρ3 d3 S3 v3 H3 g3 r3 l3 p3 h3 => ?_
  have e2 : v2 = d2 := p2
  have e3 : v3 = d3 := p3
  subst e2 e3
  exact ⟨ρ3, S3, d1, W, σ, r3, RD.grow (g2.trans g3) _ _ p1, h3⟩
/-! ### calls -/
def kwNames (kws : List Keyword) : List Str := kws.filterMap (·.arg)
def kwAll (kws : List Keyword) : Bool := kws.all fun q => q.arg.isSome
theorem kw_all {env : Env} {pos : Pos} : ∀ {kws : List Keyword}, kwAll kws = true → (backToKw pos (keywordEach kws env)).all (·.1.isSome) = true
  | [], _ => rfl
  | ⟨nm, e, p⟩ :: r, h => by
    unfold kwAll at h
    rw [List.all_cons, Bool.and_eq_true] at h
    show (nm.isSome && (backToKw pos (keywordEach r env)).all (·.1.isSome)) = true
    rw [h.1, kw_all (kws := r) h.2]
    rfl
theorem kw_none {env : Env} {pos : Pos} : ∀ {kws : List Keyword}, kwAll kws = true → (backToKw pos (keywordEach kws env)).any (·.1.isNone) = false
  | [], _ => rfl
  | ⟨nm, e, p⟩ :: r, h => by
    unfold kwAll at h
    rw [List.all_cons, Bool.and_eq_true] at h
    show (nm.isNone || (backToKw pos (keywordEach r env)).any (·.1.isNone)) = false
    rw [kw_none (kws := r) h.2]
    cases nm with
    | none => cases h.1
    | some x => rfl
theorem kw_names {env : Env} {pos : Pos} : ∀ {kws : List Keyword}, (backToKw pos (keywordEach kws env)).filterMap (·.1) = kwNames kws
  | [] => rfl
  | ⟨nm, e, p⟩ :: r => by
    show List.filterMap (·.1) ((nm, _) :: backToKw pos (keywordEach r env)) = List.filterMap (·.arg) (⟨nm, e, p⟩ :: r)
    cases nm with
    | none => exact kw_names
    | some x => exact congrArg (x :: ·) kw_names
/-- the arguments, then the call -/
theorem call_args {f : Value} {first : List Value} {es : List Expr} {kws : List Keyword} {xs ks : Xs} {pos : Pos} {pins : List (Addr × Obj)} {s : Shared} {σ : HSt} {H : Hp} {ρ : List Addr} {L : Loc} {S : Sto} {α β : Type} {P' : List Addr → Hp → α → β → Prop} {g : List D → List D → Sto → Out α} {Q : Value → Shared → Prop} {QD : β → Hp → Prop}
    (hk : PySem.W.keepIn X.K f = true) (hs : es.all nostar = true) (hx : es = [] → xs = .nil) (ha : kwAll kws = true) (he : SEs X CA T R W es xs) (hw : SK X CA T R W kws ks) (I : Inv X pins σ H s) (r : Rep X.K CA ρ H S) (l : RL X.K CA ρ H σ L)
    (h : Good X.K CA W P' ((evs T R xs L S).bind fun as S1 => (evs T R ks L S1).bind fun ws S2 => g as ws S2) ρ σ H QD)
    (q : ∀ us ws vs zs ds es' ρ' H' S' s', Vals vs us → Vals zs ws → RDs X.K CA ρ' H' ds vs → RDs X.K CA ρ' H' es' zs → Inv X pins σ H' s' → Rep X.K CA ρ' H' S' → Grow ρ H ρ' H' → Good X.K CA W P' (g ds es' S') ρ' σ H' QD → wpAny (model X.prog X.w) X.A (call f (first ++ us) ((kwNames kws).zip ws)) Q X.xe s') :
    wpAny (model X.prog X.w) X.A (callWith pos f first (backTo pos (starEach es X.env)) (backToKw pos (keywordEach kws X.env))) Q X.xe s := by
  cases es with
  | nil =>
    cases hx rfl
    simp only [evs, Out.ok_bind] at h
    refine PySem.W.callWith_KW0 (h₀ := X.base) I.ok.mod.kin hk (kw_all ha) ?_ (by show (false || _) = false; rw [kw_none ha]; rfl)
    have h0 := step1 (m := evs T R ks) (P := PDs X.K CA) r l h (R := fun vs H1 => ∃ ρ1 ds S1, Grow ρ H ρ1 H1 ∧ Rep X.K CA ρ1 H1 S1 ∧ RDs X.K CA ρ1 H1 ds vs ∧ Good X.K CA W P' (g [] ds S1) ρ1 σ H1 QD)
      (fun ρ1 d S1 v H1 g1 r1 l1 p1 h1 => ⟨ρ1, d, S1, g1, r1, p1, h1⟩)
    refine thn (hw.run pos pins s σ H _ I h0) fun ws s1 ⟨zs, H1, I1, rz, ρ1, ds, S1, g1, r1, p1, h1⟩ => ⟨I1.kIn, ?_⟩
    rw [kw_names]
    exact q [] ws [] zs [] ds ρ1 H1 S1 s1 .nil rz RDs.nil p1 I1 r1 g1 h1
  | cons e es =>
    have hs2 := hs
    rw [List.all_cons, Bool.and_eq_true] at hs
    refine PySem.W.callWith_KW (h₀ := X.base) I.ok.mod.kin hk (kw_all ha) ?_ (by rw [stars hs2, kw_none ha]; rfl) (star1 hs.1)
    have h0 := step1 (m := evs T R xs) (P := PDs X.K CA) r l h (R := fun vs H1 => ∃ ρ1 ds S1, Grow ρ H ρ1 H1 ∧ Rep X.K CA ρ1 H1 S1 ∧ RL X.K CA ρ1 H1 σ L ∧ RDs X.K CA ρ1 H1 ds vs ∧ Good X.K CA W P' ((evs T R ks L S1).bind fun ws S2 => g ds ws S2) ρ1 σ H1 QD)
      (fun ρ1 d S1 v H1 g1 r1 l1 p1 h1 => ⟨ρ1, d, S1, g1, r1, l1, p1, h1⟩)
    refine thn (he.run pos pins s σ H _ I h0) fun us s1 ⟨vs, H1, I1, rv, ρ1, ds, S1, g1, r1, l1, p1, h1⟩ => ?_
    have h2 := step1 (m := evs T R ks) (P := PDs X.K CA) r1 l1 h1 (R := fun zs H2 => ∃ ρ2 es' S2, Grow ρ1 H1 ρ2 H2 ∧ Rep X.K CA ρ2 H2 S2 ∧ RDs X.K CA ρ2 H2 es' zs ∧ Good X.K CA W P' (g ds es' S2) ρ2 σ H2 QD)
      (fun ρ2 d S2 v H2 g2 r2 l2 p2 h2 => ⟨ρ2, d, S2, g2, r2, p2, h2⟩)
    refine thn (hw.run pos pins s1 σ H1 _ I1 h2) fun ws s2 ⟨zs, H2, I2, rz, ρ2, es', S2, g2, r2, p2, h3⟩ => ⟨I2.kIn, ?_⟩
    rw [kw_names]
    exact q us ws vs zs ds es' ρ2 H2 S2 s2 rv rz (RDs.grow g2 _ _ p1) p2 I2 r2 (g1.trans g2) h3
theorem se_call (b : Bd X CA T FA blts k R W) {f : Str} {es : List Expr} {kws : List Keyword} {xs ks : Xs} {p pos : Pos} (hg : Gl X f) (hd : (f == ("__debug__" : Str)) = false) (hdot : f.cps.contains 46 = false) (hs : es.all nostar = true) (hx : es = [] → xs = .nil) (ha : kwAll kws = true) (he : SEs X CA T R W es xs) (hw : SK X CA T R W kws ks) :
    SE X CA T R W (.Call (.Name f p) es kws pos) (.call f xs (kwNames kws) ks) := by
  refine ⟨fun pins s σ H Q I ⟨ρ, L, S, r, l, h⟩ => ?_⟩
  simp only [evE] at h
  cases hf : T.fn.lookup f with
  | none => rw [hf] at h; exact h.elim
  | some d =>
    rw [hf] at h
    obtain ⟨a, fa, fd, F, sh⟩ := b.g.fn f d hf
    obtain ⟨hm, hk⟩ := b.g.glo f a fa hdot
    refine wpAny_Call_Name_kw (ld_glob I hg hm ?_ hd)
    refine call_args (P' := PD X.K CA) (first := []) (g := fun as ws S2 => match d.shp.bind as (kwNames kws) ws with
      | some vs => R f vs S2
      | none => .bad) hk hs hx ha he hw I r l h fun us ws vs zs ds es' ρ' H' S' s' rv rz pd pz I' r' gg h' => ?_
    split at h'
    · rename_i args hb
      exact runA F (b.rm.mono (by omega)) b.tk sh I' rv rz hb r' pd pz h'
    · exact h'.elim
/-- an instance -/
theorem se_mk (b : Bd X CA T FA blts k R W) {f g : Str} {d : FDef} {es : List Expr} {kws : List Keyword} {xs ks : Xs} {p pos : Pos} (hmk : mkD T f = some (.inr (g, d))) (hg : Gl X f) (hd : (f == ("__debug__" : Str)) = false) (hs : es.all nostar = true) (hx : es = [] → xs = .nil) (ha : kwAll kws = true) (he : SEs X CA T R W es xs) (hw : SK X CA T R W kws ks) :
    SE X CA T R W (.Call (.Name f p) es kws pos) (.mk f xs (kwNames kws) ks) := by
  refine ⟨fun pins s σ H Q I ⟨ρ, L, S, r, l, h⟩ => ?_⟩
  simp only [evE] at h
  rw [hmk] at h
  unfold mkD at hmk
  split at hmk
  · rename_i c hc
    split at hmk
    · cases hmk
    · rename_i hex
      split at hmk
      · rename_i g' hg'
        split at hmk
        · rename_i d' hf
          cases hmk
          obtain ⟨C, hC, hm, _, _, _, hins, _⟩ := b.g.cls f c hc
          obtain ⟨fa, hfa, M⟩ := (hins hex).mkr g hg'
          obtain ⟨fa', hfa', fd, F, sh⟩ := b.g.fn g d hf
          rw [hfa] at hfa'
          cases hfa'
          refine wpAny_Call_Name_kw (ld_glob I hg hm ?_ hd)
          refine call_args (P' := PD X.K CA) (first := []) (g := fun as ws S2 => match d.shp.bind (.ref S2.length :: as) (kwNames kws) ws with
            | some vs => (R g vs (S2 ++ [.ins f []])).bind fun r S3 => match r with
              | .non => .ok (.ref S2.length) S3
              | _ => .bad
            | none => .bad) M.kp hs hx ha he hw I r l h fun us ws vs zs ds es' ρ' H' S' s' rv rz pd pz I' r' gg h' => ?_
          split at h'
          · rename_i args hb
            exact runMk M hC F (b.rm.mono (by omega)) b.tk sh I' rv rz hb r' pd pz h'
          · exact h'.elim
        · cases hmk
      · cases hmk
  · cases hmk
/-! ### built-in calls -/
/-- a built-in function or type by its name -/
inductive BltName : Blt → Str → Value → Nat → Prop where
  | len : BltName .len "len" (.builtin "len") 1
  | abs : BltName .abs "abs" (.builtin "abs") 1
  | int_ : BltName .int_ "int" (.type "int") 1
  | repr : BltName .repr "repr" (.builtin "repr") 1
  | list : BltName .list "list" (.type "list") 1
  | tuple : BltName .tuple "tuple" (.type "tuple") 1
  | sum : BltName .sum "sum" (.builtin "sum") 1
  | all : BltName .all "all" (.builtin "all") 1
  | any : BltName .any "any" (.builtin "any") 1
  | max2 : BltName .max2 "max" (.builtin "max") 2
  | min2 : BltName .min2 "min" (.builtin "min") 2
  | max1 : BltName .max1 "max" (.builtin "max") 1
  | min1 : BltName .min1 "min" (.builtin "min") 1
  | str_ : BltName .str_ "str" (.type "str") 1
theorem BltName.boot {f : Blt} {x : Str} {v : Value} {n : Nat} (h : BltName f x v n) : bootBuiltins x = some v := by
  cases h <;> decide +kernel
theorem BltName.plain {f : Blt} {x : Str} {v : Value} {n : Nat} (h : BltName f x v n) : x ≠ "__name__" ∧ (x == ("__debug__" : Str)) = false := by
  cases h <;> exact ⟨by decide +kernel, by decide +kernel⟩
theorem good_one {K : PySem.W.Frag} {ρ : List Addr} {σ : HSt} {H : Hp} {Q : VK} {as : List D} {g : D → Out D} (h : Good K CA W (PD K CA) (one as g) ρ σ H Q) : ∃ a, as = [a] ∧ Good K CA W (PD K CA) (g a) ρ σ H Q := by
  unfold one at h
  split at h
  · exact ⟨_, rfl, h⟩
  · exact h.elim
theorem good_two {K : PySem.W.Frag} {ρ : List Addr} {σ : HSt} {H : Hp} {Q : VK} {as : List D} {g : D → D → Out D} (h : Good K CA W (PD K CA) (two as g) ρ σ H Q) : ∃ a b, as = [a, b] ∧ Good K CA W (PD K CA) (g a b) ρ σ H Q := by
  unfold two at h
  split at h
  · exact ⟨_, _, rfl, h⟩
  · exact h.elim
theorem lints_rd {K : PySem.W.Frag} {ρ : List Addr} {H : Hp} {S : Sto} {a : D} {v : V} {ns : List Int} (r : Rep K CA ρ H S) (h : RD K CA ρ H a v) (e : lintsD S a = some ns) : ∃ p, v = .ref p ∧ SqL K H p (ns.map V.int) := by
  unfold lintsD at e
  split at e
  · obtain ⟨ds, e1, e2⟩ := Option.bind_eq_some_iff.mp e
    obtain ⟨p, xs, rfl, h1, h2⟩ := r.list_v h e1
    rw [ints_rd h2 e2] at h1
    exact ⟨p, rfl, h1⟩
  · cases e
theorem lbls_rd {K : PySem.W.Frag} {ρ : List Addr} {H : Hp} {S : Sto} {a : D} {v : V} {ns : List Bool} (r : Rep K CA ρ H S) (h : RD K CA ρ H a v) (e : lblsD S a = some ns) : ∃ p, v = .ref p ∧ SqL K H p (ns.map V.bl) := by
  unfold lblsD at e
  split at e
  · obtain ⟨ds, e1, e2⟩ := Option.bind_eq_some_iff.mp e
    obtain ⟨p, xs, rfl, h1, h2⟩ := r.list_v h e1
    rw [bls_rd h2 e2] at h1
    exact ⟨p, rfl, h1⟩
  · cases e
theorem blt_ok (b : Bd X CA T FA blts k R W) {f : Blt} {x : Str} {v : Value} {n : Nat} (h : BltName f x v n) : CallR X v (rB X.K CA f) := by
  have hc := b.calm
  cases h with
  | len =>
    refine call_imp (X := X) (call_len_seq.or call_len_str) fun xs H Q ⟨ρ, S, as, W, σ, r, ra, gg⟩ => ?_
    obtain ⟨a, rfl, g⟩ := good_one gg
    obtain ⟨v, rfl, h1⟩ := rds1 ra
    unfold lenD at g
    split at g
    · cases rd_str h1
      split at g
      · rename_i hz
        exact .inr ⟨_, rfl, by rw [← lim_eq]; exact hz, good_ok g r mk_int⟩
      · exact g.elim
    · split at g
      · rename_i ds e
        obtain ⟨p, xs, rfl, h2, h3, _⟩ := seq_rd r h1 e
        refine .inl ⟨p, xs, rfl, h2, ?_⟩
        rw [← h3.length]
        exact good_ok g r mk_int
      · exact g.elim
  | abs =>
    refine call_imp (X := X) call_abs fun xs H Q ⟨ρ, S, as, W, σ, r, ra, gg⟩ => ?_
    obtain ⟨a, rfl, g⟩ := good_one gg
    obtain ⟨v, rfl, h1⟩ := rds1 ra
    split at g
    · cases rd_int h1
      exact ⟨_, rfl, good_ok g r mk_int⟩
    · exact g.elim
  | int_ =>
    refine call_imp (X := X) call_int1 fun xs H Q ⟨ρ, S, as, W, σ, r, ra, gg⟩ => ?_
    obtain ⟨a, rfl, g⟩ := good_one gg
    obtain ⟨v, rfl, h1⟩ := rds1 ra
    unfold intD at g
    split at g
    · cases rd_int h1
      exact .inl ⟨_, rfl, good_ok g r mk_int⟩
    · cases rd_bl h1
      exact .inr ⟨_, rfl, good_ok g r mk_int⟩
    · exact g.elim
  | repr =>
    refine call_imp (X := X) ((call_reprD b.rm.gd b.hu).or (call_reprK (CA := CA) b.rm.gd b.hu)) fun xs H Q ⟨ρ, S, as, W, σ, r, ra, gg⟩ => ?_
    obtain ⟨a, rfl, g⟩ := good_one gg
    obtain ⟨v, rfl, h1⟩ := rds1 ra
    unfold reprD at g
    split at g
    · rename_i p e
      split at g
      · rename_i hz
        exact .inl ⟨v, p, rfl, dp_of r _ _ _ _ e h1, hz, good_ok g r mk_str⟩
      · exact g.elim
    · split at g
      · rename_i kvs e
        split at g
        · rename_i hz
          cases a with
          | ref i =>
            cases hd : dicAt S i with
            | none => simp only [dicOf, hd] at e; cases e
            | some l0 =>
              simp only [dicOf, hd] at e
              obtain ⟨p, l, rfl, _, h2, h3⟩ := r.dic_v h1 hd
              exact .inr ⟨ρ, p, l, l0, kvs, rfl, h2, h3, e, hz.1, hz.2.1, hz.2.2, good_ok g r mk_str⟩
          | _ => cases e
        · exact g.elim
      · exact g.elim
  | list =>
    refine call_imp (X := X) call_list_of fun xs H Q ⟨ρ, S, as, W, σ, r, ra, gg⟩ => ?_
    obtain ⟨a, rfl, g⟩ := good_one gg
    obtain ⟨v, rfl, h1⟩ := rds1 ra
    split at g
    · rename_i ds e
      obtain ⟨p, xs, rfl, h2, h3, _⟩ := seq_rd r h1 e
      exact ⟨p, xs, rfl, h2, fun q hq => good_lst g r h3 hq⟩
    · exact g.elim
  | tuple =>
    refine call_imp (X := X) call_tuple_of fun xs H Q ⟨ρ, S, as, W, σ, r, ra, gg⟩ => ?_
    obtain ⟨a, rfl, g⟩ := good_one gg
    obtain ⟨v, rfl, h1⟩ := rds1 ra
    split at g
    · rename_i ds e
      obtain ⟨p, xs, rfl, h2, h3, h4⟩ := seq_rd r h1 e
      rcases h4 with ⟨i, rfl, h4⟩ | ⟨rfl, h4⟩
      · exact ⟨p, xs, rfl, .inl ⟨h4, fun q hq => good_tup g r h3 hq⟩⟩
      · exact ⟨p, xs, rfl, .inr ⟨h4, good_ok g r h1⟩⟩
    · exact g.elim
  | sum =>
    refine call_imp (X := X) (cr_sum hc) fun xs H Q ⟨ρ, S, as, W, σ, r, ra, gg⟩ => ?_
    obtain ⟨a, rfl, g⟩ := good_one gg
    obtain ⟨v, rfl, h1⟩ := rds1 ra
    split at g
    · rename_i ns e
      obtain ⟨p, rfl, h2⟩ := lints_rd r h1 e
      exact ⟨p, ns, rfl, h2, good_ok g r mk_int⟩
    · exact g.elim
  | all =>
    refine call_imp (X := X) (cr_all hc) fun xs H Q ⟨ρ, S, as, W, σ, r, ra, gg⟩ => ?_
    obtain ⟨a, rfl, g⟩ := good_one gg
    obtain ⟨v, rfl, h1⟩ := rds1 ra
    split at g
    · rename_i ns e
      obtain ⟨p, rfl, h2⟩ := lbls_rd r h1 e
      exact ⟨p, ns, rfl, h2, good_ok g r mk_bl⟩
    · exact g.elim
  | any =>
    refine call_imp (X := X) (cr_any hc) fun xs H Q ⟨ρ, S, as, W, σ, r, ra, gg⟩ => ?_
    obtain ⟨a, rfl, g⟩ := good_one gg
    obtain ⟨v, rfl, h1⟩ := rds1 ra
    split at g
    · rename_i ns e
      obtain ⟨p, rfl, h2⟩ := lbls_rd r h1 e
      exact ⟨p, ns, rfl, h2, good_ok g r mk_bl⟩
    · exact g.elim
  | max2 =>
    refine call_imp (X := X) (call_max2 hc) fun xs H Q ⟨ρ, S, as, W, σ, r, ra, gg⟩ => ?_
    obtain ⟨a, c, rfl, g⟩ := good_two gg
    obtain ⟨v, u, rfl, h1, h2⟩ := rds2 ra
    split at g
    · cases rd_int h1
      cases rd_int h2
      exact ⟨_, _, rfl, good_ok g r mk_int⟩
    · exact g.elim
  | min2 =>
    refine call_imp (X := X) (call_min2 hc) fun xs H Q ⟨ρ, S, as, W, σ, r, ra, gg⟩ => ?_
    obtain ⟨a, c, rfl, g⟩ := good_two gg
    obtain ⟨v, u, rfl, h1, h2⟩ := rds2 ra
    split at g
    · cases rd_int h1
      cases rd_int h2
      exact ⟨_, _, rfl, good_ok g r mk_int⟩
    · exact g.elim
  | max1 =>
    refine call_imp (X := X) (cr_max hc) fun xs H Q ⟨ρ, S, as, W, σ, r, ra, gg⟩ => ?_
    obtain ⟨a, rfl, g⟩ := good_one gg
    obtain ⟨v, rfl, h1⟩ := rds1 ra
    split at g
    · rename_i n ns e
      obtain ⟨p, rfl, h2⟩ := lints_rd r h1 e
      obtain ⟨m1, m2⟩ := maxL_mem n ns
      refine ⟨p, n :: ns, rfl, h2, by simp, fun m h3 h4 => ?_⟩
      have : m = maxL (n :: ns) := by
        have := m2 m h3
        have := h4 _ m1
        omega
      rw [this]
      exact good_ok g r mk_int
    · exact g.elim
  | min1 =>
    refine call_imp (X := X) (cr_min hc) fun xs H Q ⟨ρ, S, as, W, σ, r, ra, gg⟩ => ?_
    obtain ⟨a, rfl, g⟩ := good_one gg
    obtain ⟨v, rfl, h1⟩ := rds1 ra
    split at g
    · rename_i n ns e
      obtain ⟨p, rfl, h2⟩ := lints_rd r h1 e
      obtain ⟨m1, m2⟩ := minL_mem n ns
      refine ⟨p, n :: ns, rfl, h2, by simp, fun m h3 h4 => ?_⟩
      have : m = minL (n :: ns) := by
        have := m2 m h3
        have := h4 _ m1
        omega
      rw [this]
      exact good_ok g r mk_int
    · exact g.elim
  | str_ =>
    refine call_imp (X := X) call_str_int fun xs H Q ⟨ρ, S, as, W, σ, r, ra, gg⟩ => ?_
    obtain ⟨a, rfl, g⟩ := good_one gg
    obtain ⟨v, rfl, h1⟩ := rds1 ra
    split at g
    · cases rd_int h1
      split at g
      · rename_i hz
        exact ⟨_, rfl, hz, good_ok g r mk_str⟩
      · exact g.elim
    · exact g.elim
theorem se_blt (b : Bd X CA T FA blts k R W) {f : Blt} {x : Str} {v : Value} {n : Nat} {es : List Expr} {xs : Xs} {p pos : Pos} (hn : BltName f x v n) (hb : x ∈ blts) (hg : Gl X x) (hs : es.all nostar = true) (hne : es ≠ []) (he : SEs X CA T R W es xs) :
    SE X CA T R W (.Call (.Name x p) es [] pos) (.blt f xs) := by
  cases es with
  | nil => exact absurd rfl hne
  | cons e es =>
    have hs2 := hs
    rw [List.all_cons, Bool.and_eq_true] at hs
    have h1 := blt_ok b hn
    have hm := b.g.blt x hb
    have h0 : PE X (.Call (.Name x p) (e :: es) [] pos) (tCB (rB X.K CA f) (tM X.K CA W (PDs X.K CA) (evs T R xs))) := by
      have hv := hn.boot
      obtain ⟨hp1, hp2⟩ := hn.plain
      cases hn <;> first
        | exact pe_callB h1 hg hm hv he hp1 hp2 (star1 hs.1) (stars hs.2)
        | exact pe_callTy h1 hg hm hv he hp1 hp2 (star1 hs.1) (stars hs.2)
    refine peI h0 fun σ H Q ⟨ρ, L, S, r, l, h⟩ => ?_
    simp only [evE] at h
    refine step1 r l h fun ρ1 d1 S1 v1 H1 g1 r1 l1 p1 h1 => ?_
    exact ⟨ρ1, S1, d1, W, σ, r1, p1, h1⟩
end
end Am
set_option maxHeartbeats 1000000
/-! Am7: methods, attributes, isinstance. -/
namespace Am
open PySem PySem.Spec PyProof.Rows L2
section
variable {X : Cx} {CA : Str → Option Addr} {T : Tab} {FA : Str → Option Addr} {blts : List Str} {k : Nat} {R : Str → List D → Sto → Out D} {W : WX}
theorem insC_some {C : Str} {c : CDef} (h : insC T C = some c) : T.cls.lookup C = some c ∧ c.exc = none := by
  unfold insC at h
  split at h
  · rename_i c' hc
    split at h
    · rename_i hz
      cases h
      exact ⟨hc, Option.isNone_iff_eq_none.mp hz⟩
    · cases h
  · cases h
theorem methD_some {S : Sto} {a : D} {m f : Str} {d : FDef} (h : methD T S a m = some (f, d)) : ∃ i C fs c, a = .ref i ∧ S[i]? = some (.ins C fs) ∧ fs.lookup m = none ∧ insC T C = some c ∧ c.meths.lookup m = some f ∧ T.fn.lookup f = some d := by
  unfold methD clsOf at h
  cases a with
  | ref i =>
    cases hS : S[i]? with
    | none => simp only [hS] at h; cases h
    | some o =>
      cases o with
      | ins C fs =>
        simp only [hS] at h
        by_cases hl : fs.lookup m = none
        · rw [if_pos hl] at h
          cases hc : insC T C with
          | none => simp only [hc] at h; cases h
          | some c =>
            cases hm : c.meths.lookup m with
            | none => simp only [hc, hm] at h; cases h
            | some g =>
              cases hf : T.fn.lookup g with
              | none => simp only [hc, hm, hf] at h; cases h
              | some d' =>
                simp only [hc, hm, hf] at h
                cases h
                exact ⟨i, C, fs, c, rfl, hS, hl, hc, hm, hf⟩
        · rw [if_neg hl] at h; cases h
      | _ => simp only [hS] at h; cases h
  | _ => cases h
theorem RF.lookup_none {K : PySem.W.Frag} {ρ : List Addr} {H : Hp} {f : Str} : ∀ {fs : Flds} {l : List (Str × V)}, RF K CA ρ H fs l → fs.lookup f = none → l.lookup f = none
  | [], l, h, _ => by have : l = [] := h; subst this; rfl
  | p :: r, l, h, e => by
    obtain ⟨v, s, rfl, h1, h2⟩ := h
    obtain ⟨k, y⟩ := p
    by_cases z : f = k
    · subst z; simp [List.lookup] at e
    · have q : (f == k) = false := by simpa using z
      simp only [List.lookup, q] at e ⊢
      exact RF.lookup_none h2 e
/-- an instance as it stands -/
theorem Rep.ins_v {K : PySem.W.Frag} {ρ : List Addr} {H : Hp} {S : Sto} (r : Rep K CA ρ H S) {i : Nat} {C : Str} {fs : Flds} {v : V} (h : RD K CA ρ H (.ref i) v) (e : S[i]? = some (.ins C fs)) : ∃ a c dx l, v = .ref a ∧ ρ[i]? = some a ∧ CA C = some c ∧ H a = some (.ins c dx l) ∧ RF K CA ρ H fs l := by
  obtain ⟨a, ha, rfl⟩ := h.ref
  obtain ⟨b, hb, c, dx, l, h0, h1, h2⟩ := r.at_ e
  rw [ha] at hb
  cases hb
  exact ⟨a, c, dx, l, rfl, ha, h0, h1, h2⟩
theorem se_meth (b : Bd X CA T FA blts k R W) {o : Expr} {m : Str} {es : List Expr} {kws : List Keyword} {y : Am.X} {xs ks : Xs} {apos pos : Pos} {pl : Sem Bool} (ho : SE X CA T R W o y) (hs : es.all nostar = true) (hx : es = [] → xs = .nil) (ha : kwAll kws = true)
    (he : SEs X CA T R W es xs) (hw : SK X CA T R W kws ks)
    (ht : eval (.Call (.Attribute o m apos) es kws pos) X.env = (do
      let ov ← eval o X.env
      standAt apos.atName
      let (f, first) ← holding [ov] (getMethod ov m pl)
      callWith pos f first (backTo pos (starEach es X.env)) (backToKw pos (keywordEach kws X.env))) := by rfl) :
    SE X CA T R W (.Call (.Attribute o m apos) es kws pos) (.meth y m xs (kwNames kws) ks) := by
  refine ⟨fun pins s σ H Q I ⟨ρ, L, S, r, l, h⟩ => ?_⟩
  simp only [evE] at h
  refine PySem.W.methodCall_KW (pl := pl) ?_ ht
  have h0 := step1 (m := evE T R y) (P := PD X.K CA) r l h (R := fun v H1 => ∃ ρ1 d S1, Rep X.K CA ρ1 H1 S1 ∧ RL X.K CA ρ1 H1 σ L ∧ RD X.K CA ρ1 H1 d v ∧ Good X.K CA W (PD X.K CA) (match methD T S1 d m with
    | some (f, dd) => (evs T R xs L S1).bind fun as S1 => (evs T R ks L S1).bind fun ws S2 => match dd.shp.bind (d :: as) (kwNames kws) ws with
      | some vs => R f vs S2
      | none => .bad
    | none => .bad) ρ1 σ H1 Q) (fun ρ1 d S1 v H1 g1 r1 l1 p1 h1 => ⟨ρ1, d, S1, r1, l1, p1, h1⟩)
  refine thn (ho.run pins s σ H _ I h0) fun u s1 ⟨v, H1, I1, rv, ρ1, d, S1, r1, l1, p1, h1⟩ => ?_
  split at h1
  · rename_i f dd hm
    obtain ⟨i, C, fs, c, rfl, hS, hl, hc, hmm, hf⟩ := methD_some hm
    obtain ⟨a, ca, dx, fl, rfl, hρ, hCA, ea, hrf⟩ := r1.ins_v p1 hS
    obtain ⟨hc1, hc2⟩ := insC_some hc
    obtain ⟨ca', hCA', _, _, _, _, hins, _⟩ := b.g.cls C c hc1
    rw [hCA] at hCA'
    cases hCA'
    have J := hins hc2
    obtain ⟨fa, hfa, M⟩ := J.meth m f hmm
    obtain ⟨fa', hfa', fd, F, sh⟩ := b.g.fn f dd hf
    rw [hfa] at hfa'
    cases hfa'
    obtain rfl : u = Value.ref a := rv
    refine getmeth_ok I1 ea J.cls M (RF.lookup_none hrf hl) ?_
    refine call_args (P' := PD X.K CA) (first := [Value.ref a]) (g := fun as ws S2 => match dd.shp.bind (.ref i :: as) (kwNames kws) ws with
      | some vs => R f vs S2
      | none => .bad) M.kp hs hx ha he hw I1 r1 l1 h1 fun us ws vs zs ds es' ρ' H' S' s' rv rz pd pz I' r' gg h' => ?_
    split at h'
    · rename_i args hb
      exact runA (us := Value.ref a :: us) (vs := V.ref a :: vs) F (b.rm.mono (by omega)) b.tk sh I' (.cons rfl rv) rz hb r' (RDs.cons (RD.grow gg _ _ p1) pd) pz h'
    · exact h'.elim
  · exact h1.elim
/-! ### attributes -/
theorem propD_some {S : Sto} {a : D} {f g : Str} (h : propD T S a f = some g) : ∃ i C fs c, a = .ref i ∧ S[i]? = some (.ins C fs) ∧ insC T C = some c ∧ c.props.lookup f = some g := by
  unfold propD at h
  cases a with
  | ref i =>
    cases hS : S[i]? with
    | none => simp only [hS] at h; cases h
    | some o =>
      cases o with
      | ins C fs =>
        simp only [hS] at h
        cases hc : insC T C with
        | none => simp only [hc] at h; cases h
        | some c => simp only [hc] at h; exact ⟨i, C, fs, c, rfl, hS, hc, h⟩
      | _ => simp only [hS] at h; cases h
  | _ => cases h
theorem zip_lookup {K : PySem.W.Frag} {ρ : List Addr} {H : Hp} {f : Str} {d : D} : ∀ {ns : List Str} {ds : List D} {xs : List V}, RDs K CA ρ H ds xs → (ns.zip ds).lookup f = some d → ∃ v, (ns.zip xs).lookup f = some v ∧ RD K CA ρ H d v
  | [], ds, xs, _, e => by simp at e
  | n :: ns, [], xs, _, e => by simp at e
  | n :: ns, d' :: ds, xs, h, e => by
    simp only [RDs] at h
    obtain ⟨v, q, rfl, h1, h2⟩ := h
    by_cases z : f = n
    · subst z
      simp [List.lookup] at e ⊢
      subst e
      exact h1
    · have q : (f == n) = false := by simpa using z
      simp only [List.zip_cons_cons, List.lookup, q] at e ⊢
      exact zip_lookup h2 e
/-- the getter runs -/
theorem getprop_A (b : Bd X CA T FA blts k R W) {pins : List (Addr × Obj)} {σ : HSt} {H : Hp} {s : Shared} {Q : VK} {bb : Bool} {E' : Value → Shared → Prop} {a C p g dx : Addr} {fl : List (Str × V)} {f gn : Str} {d : FDef} {fd : FuncData} {x : D} {S : Sto} {ρ : List Addr} (I : Inv X pins σ H s) (ea : H a = some (.ins C dx fl)) (c : Cls X.K C)
    (hp : PropOf X.K C f p g) (F : FnA X.prog X.w X.K X.mg X.base k g fd d.ps (spR X.K CA d.ps.length (R gn))) (sh : ShpOk X.K fd d.ps d.shp) {vs : List D} (hb : d.shp.bind [x] [] [] = some vs) (r : Rep X.K CA ρ H S) (rx : RD X.K CA ρ H x (.ref a)) (h : Good X.K CA (fun _ _ _ _ => False) (PD X.K CA) (R gn vs S) ρ σ H Q) :
    wpAny (model X.prog X.w) X.A (getAttr (.ref a) f bb) (EP X pins σ Q) E' s := by
  obtain ⟨mA, O, _, _, _, _⟩ := ins_get I.hok ea
  obtain ⟨od, J, _⟩ := O.look
  obtain ⟨rest, hrec⟩ := hp.rec_
  have I1 := I.tok (s.toks + 1)
  have hc : (PySem.W.clsIn X.K C).isSome = true := by
    obtain ⟨cd, hc, _⟩ := PySem.W.any_some c.hd
    rw [hc]
    rfl
  have hr : Rm (k + 1) X.A := b.rm.mono (by omega)
  obtain ⟨xs, gs, q1, q2, bd, hl⟩ := shp_bind (s := { s with toks := s.toks + 1 }) (us := [Value.ref a]) (vs := [V.ref a]) sh I1.kIn hb (RDs.cons rx .nil) RDs.nil (.cons rfl .nil) .nil
  refine PySem.W.get_bind I.kIn J (PySem.W.plainGet_of (c.get f)).1 (PySem.W.findObj_data hc hp.at_ hp.get hp.tak) (PySem.W.plainGet_of (c.get f)).2 (wpAny_call (PySem.W.prop_get (s := { s with toks := s.toks + 1 }) I.kIn hrec ?_))
  refine codeAny_mono (F.run X.A.in1 X.stack { s with toks := s.toks + 1 } H ⟨[.ref a], []⟩ gs xs Q (fun _ _ _ => False) ⟨hr.room.in1, hr.gd⟩ I1.env0.in1 bd q1 ⟨hl, ρ, S, vs, r, q2, good_W h⟩) fun r s' hq => ?_
  cases r with
  | error er =>
    obtain ⟨a', B, H', cls, d', _, _, _, _, _, _, _, hE⟩ := hq
    exact False.elim hE
  | ok fl =>
    cases fl with
    | ret u =>
      obtain ⟨v, H', I3, rv, q3⟩ := I1.after hq
      show wpAny _ _ (handedOut u) _ _ _
      rw [PySem.W.handedOut_of (handed_of rv)]
      exact wpAny_pure ⟨v, H', I3, rv, q3⟩
    | next => exact False.elim hq
    | brk => exact False.elim hq
    | cont => exact False.elim hq
theorem attrD_some {S : Sto} {a d : D} {f : Str} (h : attrD T S a f = some d) : (∃ i C fs c, a = .ref i ∧ S[i]? = some (.ins C fs) ∧ insC T C = some c ∧ c.flds.contains f = true ∧ fs.lookup f = some d) ∨
    ∃ C ns ds c e, a = .exc C ns ds ∧ T.cls.lookup C = some c ∧ c.exc = some e ∧ c.flds.contains f = true ∧ (ns.zip ds).lookup f = some d := by
  unfold attrD at h
  cases a with
  | ref i =>
    refine .inl ?_
    cases hS : S[i]? with
    | none => simp only [hS] at h; cases h
    | some o =>
      cases o with
      | ins C fs =>
        simp only [hS] at h
        unfold fldOk at h
        cases hc : insC T C with
        | none => simp only [hc] at h; cases h
        | some c =>
          simp only [hc] at h
          by_cases hz : c.flds.contains f = true
          · rw [if_pos hz] at h
            exact ⟨i, C, fs, c, rfl, hS, hc, hz, h⟩
          · rw [if_neg hz] at h; cases h
      | _ => simp only [hS] at h; cases h
  | exc C ns ds =>
    refine .inr ?_
    dsimp only at h
    unfold xfldOk at h
    cases hc : T.cls.lookup C with
    | none => simp only [hc] at h; cases h
    | some c =>
      simp only [hc] at h
      cases he : c.exc with
      | none => simp only [he] at h; cases h
      | some e =>
        by_cases hz : c.flds.contains f = true
        · simp only [he, hz] at h
          exact ⟨C, ns, ds, c, e, rfl, hc, he, hz, h⟩
        · simp only [he, hz] at h; cases h
  | _ => cases h
/-- an exception as it stands -/
theorem exc_rd {K : PySem.W.Frag} {ρ : List Addr} {H : Hp} {C : Str} {ns : List Str} {ds : List D} {v : V} (h : RD K CA ρ H (.exc C ns ds) v) : ∃ (a c : Addr) (oe : Obj) (u : HO), v = .ref a ∧ CA C = some c ∧ H a = some (.frz oe u) ∧ oe.cls = .ref c ∧ (∃ fv, oe.data = .fields fv) ∧
    ((ns = [] ∧ ds = [] ∧ oe.dict = none) ∨ ∃ (dx : Addr) (xs : List V), oe.dict = some dx ∧ H dx = some (.xd (ns.zip xs)) ∧ ns.length = xs.length ∧ RDs K CA ρ H ds xs) := by simpa only [RD] using h
theorem se_attr (b : Bd X CA T FA blts k R W) {o : Expr} {f : Str} {y : Am.X} {pos : Pos} (ho : SE X CA T R W o y) (hab : attributeBase o f X.env (eval o X.env) = eval o X.env) : SE X CA T R W (.Attribute o f pos) (.attr y f) := by
  refine ⟨fun pins s σ H Q I ⟨ρ, L, S, r, l, h⟩ => ?_⟩
  simp only [evE] at h
  have h0 := step1 (m := evE T R y) (P := PD X.K CA) r l h (R := fun v H1 => ∃ ρ1 d S1, Rep X.K CA ρ1 H1 S1 ∧ RL X.K CA ρ1 H1 σ L ∧ RD X.K CA ρ1 H1 d v ∧ Good X.K CA W (PD X.K CA) (match propD T S1 d f with
    | some g => match T.fn.lookup g with
      | some dd => match dd.shp.bind [d] [] [] with
        | some vs => match R g vs S1 with
          | .ok d S2 => .ok d S2
          | _ => .bad
        | none => .bad
      | none => .bad
    | none => lift S1 (attrD T S1 d f)) ρ1 σ H1 Q) (fun ρ1 d S1 v H1 g1 r1 l1 p1 h1 => ⟨ρ1, d, S1, r1, l1, p1, h1⟩)
  refine attr_of hab (thn (ho.run pins s σ H _ I h0) fun u s1 ⟨v, H1, I1, rv, ρ1, d, S1, r1, l1, p1, h1⟩ => ?_)
  split at h1
  · rename_i g hg
    obtain ⟨i, C, fs, c, rfl, hS, hc, hp⟩ := propD_some hg
    obtain ⟨a, ca, dx, fl, rfl, hρ, hCA, ea, hrf⟩ := r1.ins_v p1 hS
    obtain ⟨hc1, hc2⟩ := insC_some hc
    obtain ⟨ca', hCA', _, _, _, _, hins, _⟩ := b.g.cls C c hc1
    rw [hCA] at hCA'
    cases hCA'
    have J := hins hc2
    obtain ⟨fa, p, hfa, P⟩ := J.prop f g hp
    obtain rfl : u = Value.ref a := rv
    split at h1
    · rename_i dd hf
      obtain ⟨fa', hfa', fd, F, sh⟩ := b.g.fn g dd hf
      rw [hfa] at hfa'
      cases hfa'
      split at h1
      · rename_i vs hb
        split at h1
        · rename_i d2 S2 hR
          exact getprop_A b I1 ea J.cls P F sh hb r1 p1 (by rw [hR]; exact h1)
        · exact h1.elim
      · exact h1.elim
    · exact h1.elim
  · obtain ⟨d2, e2, h2⟩ := good_lift h1
    rcases attrD_some e2 with ⟨i, C, fs, c, rfl, hS, hc, hz, hl⟩ | ⟨C, ns, ds, c, e, rfl, hc, he, hz, hl⟩
    · obtain ⟨a, ca, dx, fl, rfl, hρ, hCA, ea, hrf⟩ := r1.ins_v p1 hS
      obtain ⟨hc1, hc2⟩ := insC_some hc
      obtain ⟨ca', hCA', _, _, _, hno, hins, _⟩ := b.g.cls C c hc1
      rw [hCA] at hCA'
      cases hCA'
      obtain rfl : u = Value.ref a := rv
      obtain ⟨w, hw, hrd⟩ := RF.lookup hrf hl
      exact getattr_ok I1 ea (hins hc2).cls (hno f hz) hw fun u' s2 I2 ru => ⟨w, H1, I2, ru, good_ok h2 r1 hrd⟩
    · obtain ⟨a, ca, oe, uu, rfl, hCA, ea, hcls, ⟨fv, hfv⟩, hd⟩ := exc_rd p1
      obtain ⟨ca', hCA', _, _, _, hno, _, hexc⟩ := b.g.cls C c hc
      rw [hCA] at hCA'
      cases hCA'
      have J := (hexc e he).b
      obtain rfl : u = Value.ref a := rv
      rcases hd with ⟨rfl, rfl, _⟩ | ⟨dx, xs, hdx, edx, hlen, hrs⟩
      · cases hl
      · obtain ⟨w, hw, hrd⟩ := zip_lookup hrs hl
        obtain ⟨hget, _⟩ := I1.hok a _ ea
        obtain ⟨mA, hns, hr⟩ := (show ObjOk X.prog X.w H1 s1.heap dx (.xd (ns.zip xs)) from I1.hok dx _ edx)
        obtain ⟨od, hod, hlk⟩ := lookIn_ns hns
        obtain ⟨u2, hu2, ru2⟩ := RelO.some_of (v := w) (o := mA f) (by rw [← hw]; exact hr f)
        have Ji : PySem.W.InstAt s1.heap a oe ca (some od) := ⟨hget, hcls, by unfold PySem.W.notCls; rw [hfv] <;> rfl, by rw [hdx]; exact hod⟩
        exact HandSPX.exc_get I1.kIn Ji J.ga J.gg J.exC (PySem.W.findObj_own J.hdC (hno f hz) rfl (by rw [hlk, hu2])) (handed_of ru2) ⟨w, H1, I1.tok _, ru2, good_ok h2 r1 hrd⟩
/-! ### isinstance -/
theorem isiD_some {S : Sto} {a : D} {c : Str} {kb : Bool} (h : isiD T S a [c] = some kb) : ∃ t, tyName T S a = some t ∧ T.tn.contains t = true ∧ T.cn.contains c = true ∧ kb = (mroOf T t).contains c := by
  unfold isiD at h
  split at h
  · rename_i t ht
    split at h
    · rename_i hz
      rw [Bool.and_eq_true] at hz
      cases h
      refine ⟨t, ht, hz.1, ?_, ?_⟩
      · have := hz.2
        simpa using this
      · simp
    · cases h
  · cases h
/-- isinstance(a, c) with a at v -/
theorem isi_ok (b : Bd X CA T FA blts k R W) {pins : List (Addr × Obj)} {σ : HSt} {H : Hp} {s : Shared} {Q : VK} {ρ : List Addr} {S : Sto} {a : D} {c : Str} {v : V} {u cv : Value} {kb : Bool} {E : Value → Shared → Prop} (I : Inv X pins σ H s) (r : Rep X.K CA ρ H S) (rd : RD X.K CA ρ H a v) (rv : RelV v u)
    (e : isiD T S a [c] = some kb) (hcv : tyV CA c = some cv) (q : Q (.bl kb) H) : wpAny (model X.prog X.w) X.A (call (.builtin "isinstance") [u, cv]) (EP X pins σ Q) E s := by
  obtain ⟨t, ht, h1, h2, rfl⟩ := isiD_some e
  obtain ⟨tv, cv', e1, e2, hk, _⟩ := b.g.isi t c h1 h2
  rw [hcv] at e2
  cases e2
  have key : ∀ {Pr : Heap → Prop}, PySem.W.KitX X.K u tv Pr → Pr s.heap → u ≠ .builtin "__main__.__loader__#opaque" → wpAny (model X.prog X.w) X.A (call (.builtin "isinstance") [u, cv]) (EP X pins σ Q) E s := fun Z p hn =>
    PySem.W.kia_one Z I.kIn p hk hn fun tk => ⟨.bl _, H, I.tok tk, rfl, q⟩
  have base : ∀ {tt : Value}, TyX X.K H v tt → tv = tt → wpAny (model X.prog X.w) X.A (call (.builtin "isinstance") [u, cv]) (EP X pins σ Q) E s := fun {tt} ty he => by
    subst he
    obtain ⟨Pr, Z, p, hn⟩ := kit_of I rv ty
    exact key Z p hn
  unfold tyV at e1
  cases a with
  | non => cases ht; cases e1; cases rd_non rd; exact base (.base .non) rfl
  | bl x => cases ht; cases e1; cases rd_bl rd; exact base (.base (.bl x)) rfl
  | int i => cases ht; cases e1; cases rd_int rd; exact base (.base (.int i)) rfl
  | str x => cases ht; cases e1; cases rd_str rd; exact base (.base (.str x)) rfl
  | tup ds =>
    cases ht; cases e1
    obtain ⟨p, xs, rfl, hs, _⟩ := rd_tup rd
    rcases hs with (hs | ⟨o, hs⟩) | ⟨o, its, n, hs, hcl, _⟩
    · exact base (.base (.tup hs)) rfl
    · exact base (.fTuple hs) rfl
    · exact base (.kTuple hs hcl) rfl
  | ref i =>
    unfold tyName at ht
    cases hS : S[i]? with
    | none => simp only [hS] at ht; cases ht
    | some o =>
      simp only [hS] at ht
      cases o with
      | lst ds =>
        cases ht; cases e1
        obtain ⟨p, hp, rfl⟩ := rd.ref
        obtain ⟨xs, hx, _⟩ := r.obj i p _ hp hS
        exact base (.base (.lst hx)) rfl
      | ro ds =>
        cases ht; cases e1
        obtain ⟨p, hp, rfl⟩ := rd.ref
        obtain ⟨xs, ⟨o, hx⟩, _⟩ := r.obj i p _ hp hS
        exact base (.base (.frz hx)) rfl
      | dic kvs =>
        cases ht; cases e1
        obtain ⟨p, hp, rfl⟩ := rd.ref
        obtain ⟨xs, hx, _⟩ := r.obj i p _ hp hS
        exact base (.base (.dK hx)) rfl
      | ins C fs =>
        cases hc : insC T C with
        | none => simp only [hc] at ht; cases ht
        | some cd =>
          simp only [hc] at ht
          cases ht
          obtain ⟨hc1, hc2⟩ := insC_some hc
          obtain ⟨p, ca, dx, fl, rfl, hρ, hCA, ea, hrf⟩ := r.ins_v rd hS
          obtain ⟨ca', hCA', _, _, hb, _, hins, _⟩ := b.g.cls C cd hc1
          rw [hCA] at hCA'
          cases hCA'
          rw [hb, hCA] at e1
          cases e1
          have J := hins hc2
          exact base (.base (.ins ea J.cls J.isi.ha J.isi.hn J.isi.ht J.isi.hm)) rfl
  | exc C ns ds =>
    unfold tyName at ht
    cases hc : T.cls.lookup C with
    | none => simp only [hc] at ht; cases ht
    | some cd =>
      simp only [hc] at ht
      cases he : cd.exc with
      | none => simp only [he] at ht; cases ht
      | some ee =>
        simp only [he] at ht
        have e9 : C = t := Option.some.inj ht
        subst e9
        obtain ⟨p, ca, oe, uu, rfl, hCA, ea, hcls, ⟨fv, hfv⟩, hd⟩ := exc_rd rd
        obtain ⟨ca', hCA', _, _, hb, _, _, hexc⟩ := b.g.cls C cd hc
        rw [hCA] at hCA'
        cases hCA'
        rw [hb, hCA] at e1
        cases e1
        have J := (hexc ee he).b
        obtain rfl : u = Value.ref p := rv
        obtain ⟨hget, _⟩ := I.hok p _ ea
        have nc : PySem.W.notCls oe = true := by unfold PySem.W.notCls; rw [hfv] <;> rfl
        rcases hd with ⟨_, _, hdn⟩ | ⟨dx, xs, hdx, edx, _, _⟩
        · exact key (PySem.W.kitx_exc (od := none) (ox := oe) J.cl J.ga J.gg J.exC J.isi.ha J.isi.hn J.isi.ht J.isi.hm) ⟨hget, hcls, nc, by rw [hdn]; trivial⟩ (fun z => nomatch z)
        · obtain ⟨mA, hns, hr⟩ := (show ObjOk X.prog X.w H s.heap dx (.xd (ns.zip xs)) from I.hok dx _ edx)
          obtain ⟨od, hod, hlk⟩ := lookIn_ns hns
          exact key (PySem.W.kitx_exc (od := some od) (ox := oe) J.cl J.ga J.gg J.exC J.isi.ha J.isi.hn J.isi.ht J.isi.hm) ⟨hget, hcls, nc, by rw [hdx]; exact hod⟩ (fun z => nomatch z)
theorem se_isi (b : Bd X CA T FA blts k R W) {o : Expr} {c : Str} {y : Am.X} {p0 p1 pos : Pos} (ho : SE X CA T R W o y) (hg : Gl X "isinstance") (hb : (("isinstance" : Str)) ∈ blts) (hc : Gl X c) (hs : nostar o = true) (hin : T.cn.contains c = true) (htn : T.tn ≠ []) :
    SE X CA T R W (.Call (.Name "isinstance" p0) [o, .Name c p1] [] pos) (.isi y [c]) := by
  obtain ⟨t0, ht0⟩ : ∃ t, T.tn.contains t = true := by
    cases hz : T.tn with
    | nil => exact absurd hz htn
    | cons a l => exact ⟨a, by simp⟩
  obtain ⟨tv0, cv, _, ecv, _, hbt, how⟩ := b.g.isi t0 c ht0 hin
  have hcE : ∃ cV : V, PE X (.Name c p1) (tC cV) ∧ ∀ u, RelV cV u → u = cv := by
    unfold tyV at ecv
    split at ecv
    · rename_i n _
      cases ecv
      obtain ⟨h1, h2, h3, h4⟩ := hbt n rfl
      exact ⟨.ty n, pe_bltn hc h1 h2 rfl h4 h3, fun u hu => hu⟩
    · cases hca : CA c with
      | none => rw [hca] at ecv; cases ecv
      | some a =>
        rw [hca] at ecv
        cases ecv
        exact ⟨.ref a, pe_glob hc (how a rfl).1 rfl (how a rfl).2, fun u hu => hu⟩
  obtain ⟨cV, hPE, hu⟩ := hcE
  have hcall : CallR X (.builtin "isinstance") (fun xs H Q => ∃ ρ S a v kb, xs = [v, cV] ∧ Rep X.K CA ρ H S ∧ RD X.K CA ρ H a v ∧ isiD T S a [c] = some kb ∧ Q (.bl kb) H) := by
    intro pins s σ H xs us Q I r ⟨ρ, S, a, v, kb, e, rp, rd, he, q⟩
    subst e
    obtain ⟨u1, u2, rfl, r1, r2⟩ := vals2 r
    rw [hu u2 r2]
    exact isi_ok b I rp rd r1 he ecv q
  refine peI (pe_callB hcall hg (b.g.blt _ hb) (by decide +kernel) (pa_cons ho (pa_cons hPE pa_nil) (star1 hs)) (by decide) (by decide) (star1 hs) rfl) fun σ H Q ⟨ρ, L, S, r, l, h⟩ => ?_
  simp only [evE] at h
  refine step1 r l h fun ρ1 d1 S1 v1 H1 g1 r1 l1 p1 h1 => ?_
  obtain ⟨d, e, h2⟩ := good_lift h1
  cases hq : isiD T S1 d1 [c] with
  | none => rw [hq] at e; cases e
  | some kb =>
    rw [hq] at e
    cases e
    exact ⟨ρ1, S1, d1, v1, kb, rfl, r1, p1, hq, good_ok h2 r1 mk_bl⟩
end
end Am
set_option maxHeartbeats 4000000
/-! Am8: own exceptions made: with keywords, over any built-in class. -/
namespace PySem
namespace AmX
open Builtin Builtin.ObjectAttr PySem.HandSPX
section
variable {M : Model} {A : Around} {E : Value → Shared → Prop} {h : Heap} {g : Array GenState} {d : Drawn} {t : Nat} {os : OsState}
variable {nm q : Str} {C N : Addr} {bs bm bmB : List Value} {hdct : Bool} {sn : List Str} {sub : List Value} {ab : Bool} {col : Option Bool} {dd : Option Addr} {k0 k1 k2 k3 k5 : Option Value} {B newId initId : String}
theorem check_new_ownK (F : ExcBaseFacts B newId initId bmB) (hT : ∀ X : String, bm.contains (.type X) = bmB.contains (.type X)) {rest : List Value} {kw : List (Str × Value)} {Q : Unit → Shared → Prop}
    (hC : h.get? C = some (excClassObj nm q C N bs bm hdct sn sub ab col dd k0 k1 k2 k3 k5 newId)) (hq : Q () ⟨h, g, d, t, os⟩) : wpAny M A (checkBuiltinCall newId ⟨.ref C :: rest, kw⟩) Q E ⟨h, g, d, t, os⟩ := by
  have hcont : (Value.ref C :: bm).contains (.type B) = true := by rw [List.contains_cons, hT, F.hasB, Bool.or_true]
  have hstar := F.noStar
  simp only [checkBuiltinCall, F.newKind, F.newSplit, F.newRow]
  repeat (first | refine wpAny_loadPart_at hC ?_ | (refine wpAny_isSubtype_exc hC ?_; rw [hcont]) | refine wpAny_staticBase_exc hC ?_ | refine wpAny_madeBy_exc hC ?_ | simp only [bne_self_eq_false, Bool.false_eq_true, if_false] | wp_step)
  exact hq
theorem check_type_callK {rest : List Value} {kw : List (Str × Value)} {Q : Unit → Shared → Prop} (hC : h.get? C = some (excClassObj nm q C N bs bm hdct sn sub ab col dd k0 k1 k2 k3 k5 newId))
    (hq : Q () ⟨h, g, d, t, os⟩) : wpAny M A (checkBuiltinCall "type.__call__" ⟨.ref C :: rest, kw⟩) Q E ⟨h, g, d, t, os⟩ := by
  have f3 := tc_sub
  have hT : (⟨h, g, d, t, os⟩ : Shared).TypeIs (.ref C) "type" := ⟨_, hC, rfl⟩
  simp only [checkBuiltinCall, tc_kind, tc_split]
  repeat (any_goals (first | assumption | with_reducible refine wpAny_loadPart_at hC ?_ | with_reducible refine wpAny_onRaise ?_ | with_reducible refine wpAny_map ?_ | wp_step))
end
section
variable {prog : Program} {w : World} {A : Around} {E : Value → Shared → Prop} {R : Result → Shared → Prop} {h : Heap} {g : Array GenState} {d : Drawn} {t : Nat} {os : OsState}
variable {nm q : Str} {C N : Addr} {bs bm bmB : List Value} {hdct : Bool} {sn : List Str} {sub : List Value} {ab : Bool} {col : Option Bool} {dd : Option Addr} {k0 k1 k2 k3 k5 : Option Value} {B newId initId : String}
theorem new_ownK (F : ExcBaseFacts B newId initId bmB) (hT : ∀ X : String, bm.contains (.type X) = bmB.contains (.type X)) {rest : List Value} {kw : List (Str × Value)}
    (hC : h.get? C = some (excClassObj nm q C N bs bm hdct sn sub ab col dd k0 k1 k2 k3 k5 newId))
    (hq : R (.ok (.ret (.ref (h.objs.size + 1)))) ⟨(h.push { cls := .type "tuple", data := .seq rest.toArray }).push
      { cls := .ref C, data := .fields #[.ref h.objs.size, .none, .none, .none, .bool false, .none] }, g, d, t, os⟩) (hrest : rest.length ≤ sizeLine) :
    codeAny (model prog w) A (.builtin newId ⟨.ref C :: rest, kw⟩) R ⟨h, g, d, t, os⟩ := by
  have hends := F.ends
  have hcB : (Value.ref C :: bm).contains (.type B) = true := by rw [List.contains_cons, hT, F.hasB, Bool.or_true]
  have hcA : (Value.ref C :: bm).contains (.type "AttributeError") = false := by rw [List.contains_cons, hT, F.noAttr]; rfl
  have hcN : (Value.ref C :: bm).contains (.type "NameError") = false := by rw [List.contains_cons, hT, F.noName]; rfl
  refine codeAny_builtinAt F.entry ?_
  unfold Builtin.«BaseException.__new__»
  refine wpAt_bind ?_
  show wpAt _ _ _ (stack >>= _) _ _ _
  refine wpAt_bind (wpAt_stack fun p below => wpAt_of_wpAny ?_)
  wp_walk
  refine wpAt_of_wpAny ?_
  rw [F.owner]
  repeat (first | with_reducible refine wpAny_madeHere_exc F.canon hC ?_ | with_reducible refine wpAny_loadPart_at hC ?_ | (with_reducible refine wpAny_isSubtype_exc hC ?_; first | rw [hcB] | rw [hcA] | rw [hcN]) | wp_step)
  show R _ _
  rw [Heap.size_push]
  exact hq
theorem type_call_ownK (F : ExcBaseFacts B newId initId bmB) (hT : ∀ X : String, bm.contains (.type X) = bmB.contains (.type X)) {rest : List Value} {kw : List (Str × Value)} {fI : Addr} {Q : Fin → Shared → Prop}
    (hC : h.get? C = some (excClassObj nm q C N bs bm hdct sn sub ab col dd k0 k1 k2 k3 k5 newId))
    (hi : W.Looks (model prog w) h (typeLookup (.ref C) "__init__") (some (.ref fI))) (hb : ∀ self, W.Looks (model prog w) h (bindSpecial (.ref fI) self) (.ref fI, [self])) (hrest : rest.length ≤ sizeLine)
    (hq : codeAny (model prog w) A (.call (.ref fI) ⟨.ref (h.objs.size + 1) :: rest, kw⟩)
      (fun r s' => match r with | .ok (.ret v) => v = .none ∧ Q (.done (.ret (.ref (h.objs.size + 1)))) s' | .ok _ => False | .error e => E e s')
      ⟨(h.push (W.kdv_tup rest)).push (excO C h.objs.size), g, d, t, os⟩) :
    wpAny (model prog w) A (Builtin.«type.__call__» ⟨.ref C :: rest, kw⟩) Q E ⟨h, g, d, t, os⟩ := by
  repeat (first | with_reducible refine wpAny_loadPart_at hC ?_ | with_reducible refine wpAny_madeBy_exc hC ?_ | wp_step)
  refine codeAny_call_builtin_code (Code.quiet_builtin _ F.quiet) (check_new_ownK F hT hC ?_)
  refine new_ownK F hT hC ?_ hrest
  show wpAny _ _ _ _ _ _
  have k : ∀ b o, h.get? b = some o → ((h.push (W.kdv_tup rest)).push (excO C h.objs.size)).get? b = some o := fun b o e => Heap.get?_push_of_some _ (Heap.get?_push_of_some _ e)
  have hC₁ := k _ _ hC
  have hget : ((h.push (W.kdv_tup rest)).push (excO C h.objs.size)).get? (h.objs.size + 1) = some (excO C h.objs.size) := by heap_get
  have hcC : (Value.ref C :: bm).contains (.ref C) = true := by simp
  have i1 := hi.keeps k
  have b1 := (hb (.ref (h.objs.size + 1))).keeps k
  unfold isInstance
  repeat (first | with_reducible refine wpAny_loadPart_at hget ?_ | (with_reducible refine wpAny_isSubtype_exc hC₁ ?_; rw [hcC]) | wp_step)
  show wpAny _ _ (typeLookup (.ref C) _) _ _ _
  refine i1.at ?_
  refine wpAny_holding (wpAny_bind (b1.at ?_))
  refine wpAny_bind (wpAny_call (codeAny_mono hq fun r s' z => ?_))
  rcases r with e | (v | _ | _ | _) <;> first | exact z | exact z.elim | skip
  obtain ⟨rfl, z⟩ := z
  first
    | exact wpAny_pure (wpAny_pure z)
    | (wp_walk; exact z)
theorem call_ownK (F : ExcBaseFacts B newId initId bmB) (hT : ∀ X : String, bm.contains (.type X) = bmB.contains (.type X)) {rest : List Value} {kw : List (Str × Value)} {fI : Addr}
    (hC : h.get? C = some (excClassObj nm q C N bs bm hdct sn sub ab col dd k0 k1 k2 k3 k5 newId))
    (hi : W.Looks (model prog w) h (typeLookup (.ref C) "__init__") (some (.ref fI))) (hb : ∀ self, W.Looks (model prog w) h (bindSpecial (.ref fI) self) (.ref fI, [self])) (hrest : rest.length ≤ sizeLine)
    (hq : codeAny (model prog w) (A.under (.builtin "type.__call__" ⟨.ref C :: rest, kw⟩)) (.call (.ref fI) ⟨.ref (h.objs.size + 1) :: rest, kw⟩) (W.InitBack (h.objs.size + 1) R)
      ⟨(h.push (W.kdv_tup rest)).push (excO C h.objs.size), g, d, t, os⟩) :
    codeAny (model prog w) A (.call (.ref C) ⟨rest, kw⟩) R ⟨h, g, d, t, os⟩ := by
  have f1 := tc_lookup
  have f2 := tc_bind (.ref C)
  have hTy : (⟨h, g, d, t, os⟩ : Shared).TypeIs (.ref C) "type" := ⟨_, hC, rfl⟩
  refine codeAny_of_tree ?_
  show wpAny _ _ (callAny (.ref C) _) _ _ _
  repeat (any_goals (first | assumption | with_reducible refine wpAny_loadPart_at hC ?_ | wp_step))
  refine ⟨rfl, ?_⟩
  refine codeAny_call_builtin_at (Code.quiet_builtin _ (by decide +kernel)) entry_typeCall (check_type_callK hC (type_call_ownK F hT hC hi hb hrest ?_))
  refine codeAny_mono hq fun r s' z => ?_
  rcases r with e | (v | _ | _ | _) <;> exact z
/-- self.name = v, the first one, over any class -/
theorem osa_newK {K : W.Frag} {name : Str} {tk : Tok} {v : Value} {x C : Addr} {fv : Array Value} {hp : Heap}
    (SF : StoreFacts B bmB "object.__setattr__" "object") (X : K.In hp) (hx : hp.get? x = some { cls := .ref C, data := .fields fv }) (ho : W.excOver K C bmB = true) (hh : W.hasDictIn K C = true) (ht : W.takerIn K C name = some none)
    (hq : ∀ h' tk' dx, (∀ b o, b ≠ x → hp.get? b = some o → h'.get? b = some o) → hp.objs.size ≤ dx → dx ≠ x → h'.get? x = some { cls := .ref C, dict := some dx, data := .fields fv } →
      h'.Ns1 dx (fun y => if y = name then some v else none) → R (.ok (.ret .none)) ⟨h', g, d, tk', os⟩) :
    codeAny (model prog w) A (.call (.builtin "object.__setattr__") ⟨[.ref x, .str name tk, v], []⟩) R ⟨hp, g, d, t, os⟩ := by
  have I : W.InstAt hp x { cls := .ref C, data := .fields fv } C none := ⟨hx, rfl, rfl, trivial⟩
  have hxs : x ≠ hp.objs.size := Nat.ne_of_lt (Heap.lt_size hx)
  refine W.osa_openX SF X I ho ht fun b => ?_
  obtain ⟨cd, hcd, hd'⟩ := W.any_some hh
  have hcls : W.Looks (model prog w) hp (classData C) cd := W.looks_clsIn X hcd
  show wpAny _ _ (storeInOwnDict (.ref x) (.ref C) (.str name tk) name v b) _ _ _
  obtain ⟨nm, bs, mro, ns, qn, hd, sn, sb, ab, col, del⟩ := cd
  dsimp only at hd'
  subst hd'
  unfold storeInOwnDict ownDictForStores
  repeat (first | with_reducible refine store_in_new ?_ ?_ | with_reducible refine wpAny_loadPart_at hx ?_ | with_reducible refine hcls.at ?_ | wp_step)
  · exact ⟨_, #[], _, (Heap.get?_update_ne _ _ _ _ hxs.symm).trans (Heap.get?_push_at rfl rfl), rfl, fun e he => absurd he (by simp), fun _ => rfl⟩
  · intro h' tk' hn' hs
    have hx₁ : (hp.push { cls := .type "dict", data := .dict #[] }).get? x = some { cls := .ref C, data := .fields fv } := Heap.get?_push_of_some _ hx
    refine hq h' tk' hp.objs.size (fun b o hb ho => ?_) (Nat.le_refl _) hxs.symm ?_ hn'
    · exact (hs.2 b (Nat.ne_of_lt (Heap.lt_size ho))).trans ((Heap.get?_update_ne _ _ _ _ hb).trans (Heap.get?_push_of_some _ ho))
    · exact (hs.2 x hxs).trans (Heap.get?_update_self _ hx₁ rfl)
/-- a further one -/
theorem osa_oldK {K : W.Frag} {name : Str} {tk : Tok} {v : Value} {x C dx : Addr} {fv : Array Value} {m0 : Str → Option Value} {nl : List Str} {hp : Heap}
    (SF : StoreFacts B bmB "object.__setattr__" "object") (X : K.In hp) (hx : hp.get? x = some { cls := .ref C, dict := some dx, data := .fields fv }) (hns : hp.Ns1 dx m0) (hw : Within m0 nl) (hz : nl.length ≤ 1000) (ho : W.excOver K C bmB = true) (hh : W.hasDictIn K C = true) (ht : W.takerIn K C name = some none)
    (hq : ∀ h' tk', (∀ b o, b ≠ dx → hp.get? b = some o → h'.get? b = some o) → h'.Ns1 dx (fun y => if y = name then some v else m0 y) → R (.ok (.ret .none)) ⟨h', g, d, tk', os⟩) :
    codeAny (model prog w) A (.call (.builtin "object.__setattr__") ⟨[.ref x, .str name tk, v], []⟩) R ⟨hp, g, d, t, os⟩ := by
  obtain ⟨oD, esD, epD, hoD, hdD, _⟩ := hns.count hw
  have I : W.InstAt hp x { cls := .ref C, dict := some dx, data := .fields fv } C (some oD) := ⟨hx, rfl, rfl, hoD⟩
  refine W.osa_openX SF X I ho ht fun b => ?_
  obtain ⟨cd, hcd, hd'⟩ := W.any_some hh
  have hcls : W.Looks (model prog w) hp (classData C) cd := W.looks_clsIn X hcd
  show wpAny _ _ (storeInOwnDict (.ref x) (.ref C) (.str name tk) name v b) _ _ _
  obtain ⟨nm, bs, mro, ns, qn, hd, sn, sb, ab, col, del⟩ := cd
  dsimp only at hd'
  subst hd'
  unfold storeInOwnDict ownDictForStores
  repeat (first | with_reducible refine OEX.store_in_old hns hw hz ?_ | with_reducible refine wpAny_loadPart_at hx ?_ | with_reducible refine hcls.at ?_ | wp_step)
  intro h' tk' hn' hs
  exact hq h' tk' (fun b o hb ho => (hs.2 b hb).trans ho) hn'
end
end AmX
end PySem
set_option maxHeartbeats 4000000
/-! Am9: own exceptions made, as values and raised. -/
namespace Am
open PySem PySem.Spec PyProof.Rows L2
section
variable {X : Cx} {pins : List (Addr × Obj)} {σ : HSt} {H : Hp} {s : Shared} {a C dx : Addr} {f : Str} {y : V} {u : Value} {fs : List (Str × V)} {Q : Unit → Shared → Prop} {E : Value → Shared → Prop} {A : Around} {B : String} {bmB : List Value}
/-- self.f = y, the first one -/
theorem oxt_new (SF : StoreFacts B bmB "object.__setattr__" "object") (ho : PySem.W.excOver X.K C bmB = true) (J : ExcB X.K C) (I : Inv X pins σ H s) (e : H a = some (exo a C none)) (hno : NoAttr X.K C f) (ry : RelV y u)
    (h : ∀ dx s', H dx = none → dx ≠ a → Inv X pins σ (upd (upd H dx (exd dx [(f, y)])) a (exo a C (some dx))) s' → Q () s') : wpAny (model X.prog X.w) A (setAttr (.ref a) f u) Q E s := by
  obtain ⟨t1, hoo⟩ := exo_at I.hok e
  obtain ⟨hp, g, d, t, os⟩ := s
  refine PySem.W.set_plain I.kIn (ox := { cls := .ref C, dict := none, data := .fields #[.ref t1, .none, .none, .none, .bool false, .none] }) (od := none) ⟨hoo, rfl, rfl, trivial⟩ J.sa ?_
  refine PySem.AmX.osa_newK SF I.kIn hoo ho J.hdC hno.taker (fun h' tk' dx k dn dne hx hn => ?_)
  have hnd : H dx = none := I.hok.fresh dn
  have nd : ∀ {b : Addr} {o : Obj}, hp.get? b = some o → b ≠ dx := fun {b o} q => Nat.ne_of_lt (Nat.lt_of_lt_of_le (Heap.lt_size q) dn)
  have na : ∀ {b : Addr}, H b = none → b ≠ a := fun {b} n z => by
    rw [z, e] at n
    cases n
  have Un1 : Un X.fs [] H (upd (upd H dx (exd dx [(f, y)])) a (exo a C (some dx))) hp h' := {
    keep := fun b o q n _ _ => k b o (na n) q
    slot := fun b o q n _ _ => ⟨o.slots, k b o (na n) q⟩
    free := fun b o q n _ => by rw [upd_ne (na n), upd_ne (nd q)]; exact n
    there := fun b o q _ => by
      by_cases hb : b = a
      · exact ⟨_, by rw [hb]; exact hx⟩
      · exact ⟨o, k b o hb q⟩
    tups := fun b xs q => by rw [upd_ne (at_ne e q exo_tup), upd_ne (ne_of_none q hnd)]; exact q
    frzs := fun b o v q => by rw [upd_ne (at_ne e q exo_frz), upd_ne (ne_of_none q hnd)]; exact q
    tbls := fun b ps q => ⟨#[], by rw [upd_ne (at_ne e q exo_tbl), upd_ne (ne_of_none q hnd), q]; simp⟩ }
  refine h dx _ hnd dne (I.un (t' := tk') Un1 fun b o q => ?_)
  by_cases hb : b = a
  · subst hb
    rw [upd_same] at q
    cases q
    exact exo_ok hx
  · rw [upd_ne hb] at q
    by_cases hd : b = dx
    · subst hd
      rw [upd_same] at q
      cases q
      exact exd_ok hn (relO_put (fs := []) ry fun g => True.intro)
    · rw [upd_ne hd] at q
      exact (I.hok b o q).stay (fun c v hc z => k c v (by
          rcases hc with hc | hc
          · rw [hc]
            exact hb
          · exact at_ne e hc exo_own) z)
        (fun c hc => by rw [upd_ne (at_ne e hc exo_own), upd_ne (ne_of_none hc hnd)]; exact hc) (fun c xs hc => by rw [upd_ne (at_ne e hc exo_tup), upd_ne (ne_of_none hc hnd)]; exact hc)
/-- self.f = y, a further one -/
theorem oxt_old (SF : StoreFacts B bmB "object.__setattr__" "object") (ho : PySem.W.excOver X.K C bmB = true) (J : ExcB X.K C) (I : Inv X pins σ H s) (e : H a = some (exo a C (some dx))) (ed : H dx = some (exd dx fs)) (hl : fs.length ≤ 900) (hno : NoAttr X.K C f) (ry : RelV y u)
    (h : ∀ s', Inv X pins σ (upd H dx (exd dx ((f, y) :: fs))) s' → Q () s') : wpAny (model X.prog X.w) A (setAttr (.ref a) f u) Q E s := by
  obtain ⟨t1, hoo⟩ := exo_at I.hok e
  obtain ⟨mA, hns, rel⟩ := exd_at I.hok ed
  have hw := within_of rel
  obtain ⟨hp, g, d, t, os⟩ := s
  obtain ⟨oD, _, _, hoD, _, _⟩ := hns.count hw
  refine PySem.W.set_plain I.kIn (ox := { cls := .ref C, dict := some dx, data := .fields #[.ref t1, .none, .none, .none, .bool false, .none] }) (od := some oD) ⟨hoo, rfl, rfl, hoD⟩ J.sa ?_
  refine PySem.AmX.osa_oldK SF I.kIn hoo hns hw (by rw [List.length_map]; omega) ho J.hdC hno.taker (fun h' tk' k hn => ?_)
  have hd : ∃ o, h'.get? dx = some o := by
    obtain ⟨o, _, _, e', _⟩ := hn
    exact ⟨o, e'⟩
  exact h _ (I.write (t' := tk') (x := dx) (e := dx) (o := exd dx ((f, y) :: fs)) (by rw [ed]; exact True.intro) (.inl rfl) k hd (exd_ok hn (relO_put ry rel)))
end
/-- self.f = e, rule -/
def tOxt (K : PySem.W.Frag) (C : Addr) (f : Str) (to te : TE) : TS := fun D σ H => te σ H fun y H1 => to σ H1 fun x H2 => ∃ a : Addr, x = .ref a ∧
  ((H2 a = some (exo a C none) ∧ ∀ dx, H2 dx = none → dx ≠ a → D.nx σ (upd (upd H2 dx (exd dx [(f, y)])) a (exo a C (some dx)))) ∨
    ∃ (dx : Addr) (fs : List (Str × V)), H2 a = some (exo a C (some dx)) ∧ H2 dx = some (exd dx fs) ∧ fs.length ≤ 900 ∧ D.nx σ (upd H2 dx (exd dx ((f, y) :: fs))))
theorem ps_oxt {X : Cx} {o e : Expr} {to te : TE} {f : Str} {p' pos : Pos} {C : Addr} {B : String} {bmB : List Value} (SF : StoreFacts B bmB "object.__setattr__" "object") (hv : PySem.W.excOver X.K C bmB = true) (J : ExcB X.K C) (hno : NoAttr X.K C f)
    (ho : PE X o to) (he : PE X e te) (hs : swapsWith e (some (.Attribute o f p')) pos.line X.env = pure false) : PS X (.Assign [.Attribute o f p'] e pos) (tOxt X.K C f to te) := by
  refine ⟨fun pins s σ H D I h => ?_⟩
  refine plainObj_wpAny_Assign_Attribute (thn (he.run pins s σ H _ I h) fun v s1 ⟨y, H1, I1, r1, q1⟩ => thn (ho.run pins s1 σ H1 _ I1 q1) fun u s2 ⟨x, H2, I2, r2, a, ex, q⟩ => ?_) hs
  subst ex
  obtain rfl : u = Value.ref a := r2
  rcases q with ⟨ea, q⟩ | ⟨dx, fs, ea, ed, hl, q⟩
  · exact oxt_new SF hv J I2 ea hno r1 fun dx s' n ne K' => ⟨σ, _, K', q dx n ne⟩
  · exact oxt_old SF hv J I2 ea ed hl hno r1 fun s' K' => ⟨σ, _, K', q⟩
/-- the body's further statements -/
theorem keep_more {X : Cx} {self : Str} {a C : Addr} {B : String} {bmB : List Value} (SF : StoreFacts B bmB "object.__setattr__" "object") (hv : PySem.W.excOver X.K C bmB = true) (J : ExcB X.K C)
    (h0 : X.N[0]? = some self) (hself : Vis X.env.scope self) (hs1 : (self == ("__debug__" : Str)) = false ∧ (self == ("__classdict__" : Str)) = false) :
    ∀ {rs : List Str} {sts : List Stmt} {j : Nat}, Paired (keepSt self) rs sts → (∀ (i : Nat) r, rs[i]? = some r → X.N[j + i]? = some r ∧ Vis X.env.scope r ∧ ((r == ("__debug__" : Str)) = false ∧ (r == ("__classdict__" : Str)) = false) ∧ NoAttr X.K C r) →
    PSs X sts (fun D σ H => ∃ (ys : List V) (d : Addr) (acc : List (Str × V)), σ[0]? = some (some (V.ref a)) ∧ ys.length = rs.length ∧ (∀ (i : Nat) y, ys[i]? = some y → σ[j + i]? = some (some y)) ∧ d ≠ a ∧ H a = some (exo a C (some d)) ∧ H d = some (exd d acc) ∧ acc.length + rs.length ≤ 900 ∧
      ∀ H2, H2 a = some (exo a C (some d)) → H2 d = some (exd d ((rs.zip ys).reverse ++ acc)) → (∀ b, b ≠ a → b ≠ d → H2 b = H b) → D.nx σ H2)
  | [], _, j, .nil, hN => ⟨fun pins s σ H D I ⟨ys, d, acc, _, hl, _, _, ea, ed, _, q⟩ => pss_nil.run pins s σ H D I (q H ea (by
      simpa using ed) fun _ _ _ => rfl)⟩
  | r :: rs, _, j, .cons ⟨p0, p1, p2, p3, e⟩ t, hN => by
    subst e
    obtain ⟨n1, n2, n3, n4⟩ := hN 0 r rfl
    have hN1 : X.N[j]? = some r := by simpa using n1
    refine pssI (pss_cons (ps_oxt SF hv J n4 (pe_var h0 hself hs1.1 hs1.2) (pe_var hN1 n2 n3.1 n3.2) (swap0 rfl)) (keep_more (a := a) SF hv J h0 hself hs1 (j := j + 1) t fun i r' hr => by
      have := hN (i + 1) r' (by simpa using hr)
      rwa [show j + (i + 1) = j + 1 + i by omega] at this)) fun D σ H ⟨ys, d, acc, hσ, hl, hy, hda, ea, ed, hz, q⟩ => ?_
    cases ys with
    | nil => cases hl
    | cons y ys =>
      refine ⟨y, by have := hy 0 y rfl; simpa using this, V.ref a, hσ, a, rfl, .inr ⟨d, acc, ea, ed, by simp at hz; omega, ?_⟩⟩
      refine ⟨ys, d, (r, y) :: acc, hσ, by simpa using hl, fun i y' hi => ?_, hda, ?_, upd_same, by simp at hz ⊢; omega, fun H2 e1 e2 e3 => q H2 e1 ?_ fun b hb hb' => ?_⟩
      · have := hy (i + 1) y' (by simpa using hi)
        rwa [show j + (i + 1) = j + 1 + i by omega] at this
      · rw [upd_ne (Ne.symm hda)]; exact ea
      · rw [e2]; simp
      · rw [e3 b hb hb', upd_ne hb']
/-- what the own __init__ promises -/
def exSp (C : Addr) (rs : List Str) : Sp := fun vs H Q _ => ∃ a ys, vs = .ref a :: ys ∧ ys.length = rs.length ∧ H a = some (exo a C none) ∧ ∀ d H2, H d = none → d ≠ a → H2 a = some (exo a C (some d)) → H2 d = some (exd d (rs.zip ys).reverse) → (∀ b, b ≠ a → b ≠ d → H2 b = H b) → Q .non H2
theorem vis_local {sc : Scope} {x : Str} (h : sc.names.lookup x = some .local ∨ sc.names.lookup x = some .cell) : Vis sc x := by
  rcases h with h | h
  · exact .inl h
  · exact .inr (.inl h)
theorem start_get {N : List Str} {vs : List V} {i : Nat} {v : V} (h : vs[i]? = some v) : (L2.start N vs)[i]? = some (some v) := by
  unfold L2.start
  rw [List.getElem?_append_left (by have := (List.getElem?_eq_some_iff.mp h).1; simpa using this), List.getElem?_map, h]
  rfl
theorem keep_fn {P : Program} {w : World} {K : PySem.W.Frag} {mg : Str → Option Value} {base : Heap} {f C : Addr} {qual self : Str} {params : Arguments} {body : List Stmt} {scope : Scope} {fd : FuncData} {rs : List Str} {B : String} {bmB : List Value} {k : Nat}
    (F : FunD K "__init__" qual params body scope [] [] f fd) (S : FnScope (self :: rs) (self :: rs) scope) (hb : Paired (keepSt self) rs body) (SF : StoreFacts B bmB "object.__setattr__" "object") (hv : PySem.W.excOver K C bmB = true) (J : ExcB K C)
    (hne : rs ≠ []) (hl : rs.length ≤ 100) (hn : ∀ r ∈ self :: rs, (r == ("__debug__" : Str)) = false ∧ (r == ("__classdict__" : Str)) = false) (hno : ∀ r ∈ rs, NoAttr K C r) : FnOk P w K mg base (L2.CX P w) (k + 1) f fd (self :: rs) (exSp C rs) := by
  refine F.ok S (fun vs H Q E ⟨a, ys, e, h1, _⟩ => by rw [e]; simp [h1]) fun cdv A outer s H vs Q E hr h => ?_
  obtain ⟨a, ys, rfl, hy, ea, q⟩ := h
  cases rs with
  | nil => exact absurd rfl hne
  | cons r rs =>
    cases hb with
    | cons e t =>
      obtain ⟨p0, p1, p2, p3, e⟩ := e
      subst e
      cases ys with
      | nil => cases hy
      | cons y ys =>
        have hs := hn self (List.mem_cons_self ..)
        have hr1 := hn r (List.mem_cons_of_mem _ (List.mem_cons_self ..))
        have v0 := vis_local (S.par self (List.mem_cons_self ..))
        have v1 := vis_local (S.par r (List.mem_cons_of_mem _ (List.mem_cons_self ..)))
        refine ⟨_, pss_cons (ps_oxt SF hv J (hno r (List.mem_cons_self ..)) (pe_var (i := 0) (x := self) rfl v0 hs.1 hs.2) (pe_var (i := 1) (x := r) rfl v1 hr1.1 hr1.2) (swap0 rfl)) (keep_more (a := a) SF hv J (j := 2) (self := self) rfl v0 hs t fun i r' hi => ?_), ?_⟩
        · have hm : r' ∈ rs := List.mem_of_getElem? hi
          exact ⟨by rw [show 2 + i = i + 1 + 1 by omega]; exact hi, vis_local (S.par r' (List.mem_cons_of_mem _ (List.mem_cons_of_mem _ hm))), hn r' (List.mem_cons_of_mem _ (List.mem_cons_of_mem _ hm)), hno r' (List.mem_cons_of_mem _ hm)⟩
        · refine ⟨y, start_get (by rfl), V.ref a, start_get (by rfl), a, rfl, .inl ⟨ea, fun d hd hda => ?_⟩⟩
          refine ⟨ys, d, [(r, y)], start_get (by rfl), by simpa using hy, fun i y' hi => start_get (by rw [show 2 + i = i + 1 + 1 by omega]; exact hi), hda, upd_same, by rw [upd_ne hda, upd_same], by simp at hl ⊢; omega, fun H2 e1 e2 e3 => q d H2 hd hda e1 (by rw [e2]; simp) fun b hb hb' => ?_⟩
          rw [e3 b hb hb', upd_ne hb, upd_ne hb']
/-- an exception that was made: G is the heap without it -/
def MkX (X : Cx) (pins : List (Addr × Obj)) (σ : HSt) (C : Addr) (q : Option Addr → Hp → Prop) (u : Value) (s' : Shared) : Prop :=
  ∃ (a : Addr) (oe : Obj) (vs : Array Value) (G : Heap) (H' : Hp) (d : Option Addr), u = .ref a ∧ Inv X pins σ H' { s' with heap := G } ∧ (∀ b o, G.get? b = some o → s'.heap.get? b = some o) ∧ G.get? a = none ∧ s'.heap.get? a = some oe ∧
    Zc (.ref C) d oe ∧ oe.data = .fields vs ∧ vs[1]? = some .none ∧ H' a = none ∧ AllBare s'.gens ∧ q d H'
section
variable {X : Cx} {pins : List (Addr × Obj)} {σ : HSt} {H : Hp} {s : Shared} {C : Addr}
/-- behind an own __init__ -/
theorem mkx_init {f : Addr} {fd : FuncData} {rs kn : List Str} {self : Str} {us wus : List Value} {P : List V → Prop} {B newId initId : String} {bmB : List Value} {k : Nat} {q : Option Addr → Hp → Prop}
    (Fb : ExcBaseFacts B newId initId bmB) (hi : PySem.W.excInitIn X.K C bmB newId = true) (iC : PySem.W.findIn X.K (.ref C) "__init__" = some (some (.ref f))) (tI : PySem.W.typeIn X.K (.ref f) = some (.type "function"))
    (F1 : FnOk X.prog X.w X.K X.mg X.base (L2.CX X.prog X.w) k f fd (self :: rs) (exSp C rs)) (hr : Room (k + 1) X.A) (tk : Takes X (fun _ _ _ _ => False)) (I : Inv X pins σ H s) (hus : us.length ≤ sizeLine)
    (bd : ∀ s1 : Shared, X.K.In s1.heap → ∀ a : Addr, ∃ (gs : List Value) (xs : List V), BindsTo s1 fd ⟨Value.ref a :: us, kn.zip wus⟩ ((self :: rs).zip (Value.ref a :: gs)) ∧ Vals xs gs ∧ xs.length = rs.length ∧ P xs)
    (h : ∀ (a d : Addr) H2 xs, P xs → H a = none → H d = none → d ≠ a → H2 a = none → H2 d = some (.xd (rs.zip xs).reverse) → (∀ b, b ≠ a → b ≠ d → H2 b = H b) → q (some d) H2) :
    wpAny (model X.prog X.w) X.A (call (.ref C) us (kn.zip wus)) (MkX X pins σ C q) X.xe s := by
  obtain ⟨nm, N, qn, bs, bm, hdct, sn, sub, ab, col, dd, k0, k1, k2, k3, k5, hC, hT⟩ := PySem.W.excInit_of I.kIn hi
  obtain ⟨hp, g, dr, t, os⟩ := s
  have hsz : hp.objs.size ≤ hp.objs.size + 1 := Nat.le_succ _
  have hn : H (hp.objs.size + 1) = none := I.hok.fresh hsz
  have kk : ∀ b o, hp.get? b = some o → ((hp.push (PySem.W.kdv_tup us)).push (PySem.HandSPX.excO C hp.objs.size)).get? b = some o := fun b o e => Heap.get?_push_of_some _ (Heap.get?_push_of_some _ e)
  have hget : ((hp.push (PySem.W.kdv_tup us)).push (PySem.HandSPX.excO C hp.objs.size)).get? (hp.objs.size + 1) = some (PySem.HandSPX.excO C hp.objs.size) := by heap_get
  have I2 : Inv X pins σ (upd H (hp.objs.size + 1) (exo (hp.objs.size + 1) C none)) ⟨(hp.push (PySem.W.kdv_tup us)).push (PySem.HandSPX.excO C hp.objs.size), g, dr, t, os⟩ :=
    I.laid (t' := t) (a := hp.objs.size + 1) (o := exo (hp.objs.size + 1) C none) (h' := (hp.push (PySem.W.kdv_tup us)).push (PySem.HandSPX.excO C hp.objs.size)) kk hsz (exo_ok hget)
  obtain ⟨gs, xs, bd, rv, hl, hP⟩ := bd _ I2.kIn (hp.objs.size + 1)
  have r2 : Vals (V.ref (hp.objs.size + 1) :: xs) (Value.ref (hp.objs.size + 1) :: gs) := .cons rfl rv
  generalize ha : hp.objs.size + 1 = a at *
  have hq : exSp C rs (V.ref a :: xs) (upd H a (exo a C none)) (fun v H2 => v = .non ∧ ∃ d, H d = none ∧ d ≠ a ∧ H2 a = some (exo a C (some d)) ∧ H2 d = some (exd d (rs.zip xs).reverse) ∧ ∀ b, b ≠ a → b ≠ d → H2 b = H b) (fun _ _ _ => False) :=
    ⟨a, xs, rfl, hl, upd_same, fun d H2 hd hda e1 e2 e3 => ⟨rfl, d, by rw [upd_ne hda] at hd; exact hd, hda, e1, e2, fun b hb hb' => by rw [e3 b hb hb', upd_ne hb]⟩⟩
  refine wpAny_call (PySem.AmX.call_ownK Fb hT hC (PySem.W.looks_findIn I.kIn iC) (fun self => PySem.W.bind_fn I.kIn self tI) hus ?_)
  rw [ha]
  refine codeAny_mono (F1.run _ X.stack _ _ ⟨Value.ref a :: us, kn.zip wus⟩ _ _ _ _ (hr.make C us (kn.zip wus)) (I2.env0.make C us (kn.zip wus)) bd r2 hq) fun r s' hq' => ?_
  cases r with
  | error er => exact tk er s' (XE.of_call I2 (fun _ _ _ h => h) hq')
  | ok fl =>
    cases fl with
    | ret u =>
      obtain ⟨v, H2, os2, bare2, un2, hok2, rv2, ev, d, hd, hda, ea, ed, hrest⟩ := hq'
      subst ev
      obtain ⟨h2, g2, d2, t2, os'⟩ := s'
      obtain ⟨t0, G, Jv, kG, ge, hoe, na⟩ := mk_end0 (d2 := d2) (t2 := t2) I (by omega) kk un2 hok2 os2 bare2 ea ed hd
      refine ⟨rv2, a, _, _, G, _, some d, rfl, Jv, kG, ge, hoe, ⟨rfl, rfl⟩, rfl, rfl, na, bare2, ?_⟩
      refine h a d _ xs hP hn hd hda ?_ upd_same fun b hb hb' => ?_
      · rw [upd_ne (Ne.symm hda), del_same]
      · rw [upd_ne hb', del_ne hb, hrest b hb hb']
    | next => exact False.elim hq'
    | brk => exact False.elim hq'
    | cont => exact False.elim hq'
/-- a class without own __init__ -/
theorem mkx_bare {B newId initId : String} {bmB : List Value} {q : Option Addr → Hp → Prop} (Fb : ExcBaseFacts B newId initId bmB) (hi : PySem.W.excIn X.K C bmB newId = true) (I : Inv X pins σ H s)
    (h : q none H) : wpAny (model X.prog X.w) X.A (call (.ref C) [] []) (MkX X pins σ C q) X.xe s := by
  obtain ⟨bm, N, nm, qn, bs, hdct, sn, sub, ab, col, dd, k0, k1, k2, k3, k5, mN, hC, hN, hni, T⟩ := exc_obj I.kIn hi
  obtain ⟨hp, g, dr, t, os⟩ := s
  refine wpAny_call_exc_subT Fb T hC hN hni (fun h' a hm => ?_) (by show 0 ≤ sizeLine; omega)
  have hn : H a = none := I.hok.gone hm.new
  obtain ⟨t1, ht, _, _⟩ := hm.there
  exact ⟨a, _, _, hp, H, none, rfl, I, hm.keeps, hm.new, ht, ⟨rfl, rfl⟩, rfl, rfl, hn, I.bare, h⟩
/-- it is held as a value -/
theorem mkx_val {q : Option Addr → Hp → Prop} {Q : VK} {u : Value} {s' : Shared} (h : MkX X pins σ C q u s') (k : ∀ (a : Addr) (oe : Obj) H' d, H' a = none → oe.cls = .ref C → oe.dict = d → (∃ fv, oe.data = .fields fv) → q d H' → Q (.ref a) (upd H' a (.frz oe (.own a)))) : EP X pins σ Q u s' := by
  obtain ⟨a, oe, vs, G, H', d, rfl, I, kG, ge, ho, hz, hd, h1, na, bare, hq⟩ := h
  have J := I.laidN (t' := s'.toks) (h' := s'.heap) (o := .frz oe (.own a)) kG ge na ⟨ho, oe, ho⟩
  exact ⟨.ref a, _, J, rfl, k a oe H' d na hz.1 hz.2 ⟨vs, hd⟩ hq⟩
/-- it is raised -/
theorem mkx_raise {q : Option Addr → Hp → Prop} {Q : XK} {u : Value} {s' : Shared} (r : Raises X (.ref C)) (h : MkX X pins σ C q u s') (k : ∀ d H', q d H' → Q (.ref C) d H') : MkP X pins σ Q u s' := by
  obtain ⟨a, oe, vs, G, H', d, rfl, I, kG, ge, ho, hz, hd, h1, na, bare, hq⟩ := h
  exact ⟨a, oe, vs, { s' with heap := G }, H', .ref C, d, rfl, I, kG, ge, ho, hz, hd, h1, na, rfl, bare, r, k d H' hq⟩
end
end Am
set_option maxHeartbeats 1000000
/-! Am10: exceptions of the table made, raised. -/
namespace Am
open PySem PySem.Spec PyProof.Rows L2
theorem lookup_up {n : Nat} {kn : List Str} : ∀ {l : Shp}, (l.map shpUp).lookup (n + 1, kn) = (l.lookup (n, kn)).map fun src => Src.pos 0 :: src.reverse.map srcUp
  | [] => rfl
  | ⟨⟨m, ks⟩, src⟩ :: r => by
    show (match (n + 1, kn) == (m + 1, ks) with | true => some (Src.pos 0 :: src.reverse.map srcUp) | false => (r.map shpUp).lookup (n + 1, kn)) = ((match (n, kn) == (m, ks) with | true => some src | false => r.lookup (n, kn)) : Option (List Src)).map _
    have e : ((n + 1, kn) == (m + 1, ks)) = ((n, kn) == (m, ks)) := by
      show ((n + 1 == m + 1) && (kn == ks)) = ((n == m) && (kn == ks))
      congr 1
      simp
    rw [e]
    cases ((n, kn) == (m, ks)) with
    | true => rfl
    | false => exact lookup_up
theorem srcUp_is {us ws : List Value} {a : Value} : ∀ {src : List Src} {gs : List Value}, Paired (SrcIs (a :: us) ws) (src.map srcUp) gs → Paired (SrcIs us ws) src gs
  | [], _, .nil => .nil
  | s :: r, _, .cons h t => by
    refine .cons ?_ (srcUp_is t)
    cases s with
    | pos i => exact h
    | kw i => exact h
    | con d => exact h
theorem paired_append {α β : Type} {R : α → β → Prop} : ∀ {l1 : List α} {m1 : List β} {l2 : List α} {m2 : List β}, Paired R l1 m1 → Paired R l2 m2 → Paired R (l1 ++ l2) (m1 ++ m2)
  | [], _, _, _, .nil, h => h
  | _ :: _, _, _, _, .cons a b, h => .cons a (paired_append b h)
theorem paired_reverse {α β : Type} {R : α → β → Prop} : ∀ {l : List α} {m : List β}, Paired R l m → Paired R l.reverse m.reverse
  | [], _, .nil => .nil
  | _ :: _, _, .cons a b => by
    rw [List.reverse_cons, List.reverse_cons]
    exact paired_append (paired_reverse b) (.cons a .nil)
theorem vals_reverse {xs : List V} {us : List Value} (h : Vals xs us) : Vals xs.reverse us.reverse := paired_reverse h
theorem zip_rev {α β : Type} {l : List α} {m : List β} (h : l.length = m.length) : (l.reverse.zip m.reverse).reverse = l.zip m := by
  rw [List.zip_eq_zipWith, List.zip_eq_zipWith, ← List.reverse_zipWith h, List.reverse_reverse]
section
variable {X : Cx} {CA : Str → Option Addr} {T : Tab} {FA : Str → Option Addr} {blts : List Str} {k : Nat} {R : Str → List D → Sto → Out D} {W : WX}
/-- an exception is made: what holds behind it -/
theorem mkx_core (b : Bd X CA T FA blts k R W) {C : Str} {e : List Str × Shp} {c : CDef} {kn : List Str} {pins : List (Addr × Obj)} {σ : HSt} {H : Hp} {s : Shared} {us wus : List Value} {vs zs : List V} {as ws ds : List D} {ρ : List Addr} {S : Sto}
    (hc : T.cls.lookup C = some c) (he : c.exc = some e) (I : Inv X pins σ H s) (r1 : Vals vs us) (r2 : Vals zs wus) (eb : e.2.bind as kn ws = some ds) (hds : ds.length = e.1.length) (rp : Rep X.K CA ρ H S) (ha : RDs X.K CA ρ H as vs) (hw : RDs X.K CA ρ H ws zs) :
    ∃ ca, CA C = some ca ∧ ExcB X.K ca ∧ wpAny (model X.prog X.w) X.A (call (.ref ca) us (kn.zip wus)) (MkX X pins σ ca fun d H' => (e.1 = [] ∧ ds = [] ∧ d = none ∧ H' = H) ∨
      ∃ dx xs, d = some dx ∧ H dx = none ∧ H' dx = some (.xd (e.1.zip xs)) ∧ (∀ b, b ≠ dx → H b ≠ none → H' b = H b) ∧ e.1.length = xs.length ∧ RDs X.K CA ρ H ds xs) X.xe s := by
  obtain ⟨ca, hCA, hmg, hkp, _, hno, _, hexc⟩ := b.g.cls C c hc
  obtain ⟨J, B, newId, initId, bmB, Fb, SF, hx⟩ := hexc e he
  refine ⟨ca, hCA, J, ?_⟩
  unfold Shp.bind at eb
  split at eb
  · rename_i hl
    split at eb
    · rename_i src hsrc
      have l1 : us.length = as.length := by rw [← r1.length, ha.length]
      have l2 : wus.length = kn.length := by rw [← r2.length, ← hw.length, hl]
      rcases hx with ⟨e1, e2, hi⟩ | ⟨e1, hi, hv, D0⟩
      · rw [e2] at hsrc
        have hz : as.length = 0 ∧ kn = [] ∧ src = [] := by
          have h0 : (match (as.length, kn) == (0, ([] : List Str)) with | true => some ([] : List Src) | false => none) = some src := hsrc
          cases hq : ((as.length, kn) == (0, ([] : List Str))) with
          | false => rw [hq] at h0; cases h0
          | true =>
            rw [hq] at h0
            cases h0
            have := beq_iff_eq.mp hq
            exact ⟨congrArg Prod.fst this, congrArg Prod.snd this, rfl⟩
        obtain ⟨z1, z2, z3⟩ := hz
        subst z2 z3
        have hu : us = [] := List.length_eq_zero_iff.mp (by omega)
        subst hu
        cases eb
        exact mkx_bare Fb hi I (.inl ⟨e1, rfl, rfl, rfl⟩)
      · obtain ⟨f, qual, params, body, scope, self, fd, iC, tI, F, Sc, hne, hlen, hp100, hnm, hnoa, hbd, hsh⟩ := D0
        have F1 := keep_fn (P := X.prog) (w := X.w) (mg := X.mg) (base := X.base) (k := k) F Sc hbd SF hv J (by simpa using hne) (by simpa using hlen) hnm hnoa
        have hn100 : as.length ≤ 100 := by
          have key : ∀ {l : Shp}, l.lookup (as.length, kn) = some src → ∃ p ∈ l, p.1.1 = as.length := by
            intro l
            induction l with
            | nil => intro h; cases h
            | cons p l ih =>
              intro h
              obtain ⟨⟨m, ks⟩, s0⟩ := p
              cases hq : ((as.length, kn) == (m, ks)) with
              | true => exact ⟨_, List.mem_cons_self .., (congrArg Prod.fst (beq_iff_eq.mp hq)).symm⟩
              | false =>
                rw [List.lookup_cons, hq] at h
                obtain ⟨p, hp, e⟩ := ih h
                exact ⟨p, List.mem_cons_of_mem _ hp, e⟩
          obtain ⟨p, hp, e⟩ := key hsrc
          have := hp100 p hp
          omega
        refine mkx_init (P := fun xs => RDs X.K CA ρ H ds xs.reverse) Fb hi iC tI F1 (b.rm.room.mono (by omega)) (b.tk.imp fun _ _ _ _ h => h.elim) I (by rw [sizeLine_eq]; omega) (fun s1 K1 a => ?_) (fun a d H2 xs hP hna hnd hda n1 n2 n3 => ?_)
        · obtain ⟨gs, pg, bd⟩ := hsh.bind (as.length + 1) kn _ (by rw [lookup_up, hsrc]; rfl) s1 (Value.ref a :: us) wus K1 (by simp [l1]) l2
          cases pg with
          | cons p0 pr =>
            rename_i g0 gr
            have hg0 : g0 = Value.ref a := by
              have : (Value.ref a :: us)[0]? = some g0 := p0
              simpa using this.symm
            subst hg0
            have pr2 := paired_reverse (srcUp_is (by rw [List.map_reverse] at pr ⊢; exact pr) : Paired (SrcIs us wus) src.reverse gr)
            rw [List.reverse_reverse] at pr2
            obtain ⟨xs, q1, q2⟩ := srcs_rd ha hw r1 r2 pr2 eb
            refine ⟨gr, xs.reverse, bd, ?_, ?_, ?_⟩
            · have := vals_reverse q1
              rwa [List.reverse_reverse] at this
            · rw [List.length_reverse, List.length_reverse, ← q2.length, hds]
            · rw [List.reverse_reverse]; exact q2
        · have hxl : e.1.length = xs.reverse.length := by rw [← hP.length, hds]
          refine .inr ⟨d, xs.reverse, rfl, hnd, ?_, fun b hb hb' => n3 b (fun z => ?_) hb, hxl, hP⟩
          · rw [n2]
            have := zip_rev (l := e.1) (m := xs.reverse) hxl
            rw [List.reverse_reverse] at this
            rw [this]
          · rw [z] at hb'
            exact hb' hna
    · cases eb
  · cases eb
/-- an exception as a value -/
theorem se_mkx (b : Bd X CA T FA blts k R W) {f : Str} {e : List Str × Shp} {es : List Expr} {kws : List Keyword} {xs ks : Xs} {p pos : Pos} (hmk : mkD T f = some (.inl e)) (hg : Gl X f) (hd : (f == ("__debug__" : Str)) = false) (hs : es.all nostar = true) (hx : es = [] → xs = .nil) (ha : kwAll kws = true) (he : SEs X CA T R W es xs) (hw : SK X CA T R W kws ks) :
    SE X CA T R W (.Call (.Name f p) es kws pos) (.mk f xs (kwNames kws) ks) := by
  refine ⟨fun pins s σ H Q I ⟨ρ, L, S, r, l, h⟩ => ?_⟩
  simp only [evE] at h
  rw [hmk] at h
  unfold mkD at hmk
  split at hmk
  · rename_i c hc
    split at hmk
    · rename_i e' hex
      cases hmk
      obtain ⟨C, hC, hm, hkp, _⟩ := b.g.cls f c hc
      refine wpAny_Call_Name_kw (ld_glob I hg hm ?_ hd)
      refine call_args (P' := PD X.K CA) (first := []) (g := fun as ws S2 => match e.2.bind as (kwNames kws) ws with
        | some vs => if vs.length = e.1.length then .ok (.exc f e.1 vs) S2 else .bad
        | none => .bad) hkp hs hx ha he hw I r l h fun us ws vs zs ds es' ρ' H' S' s' rv rz pd pz I' r' gg h' => ?_
      split at h'
      · rename_i args hb
        split at h'
        · rename_i hlen
          obtain ⟨ca, hCA, J, hcore⟩ := mkx_core b hc hex I' rv rz hb hlen r' pd pz
          rw [hC] at hCA
          cases hCA
          refine thn hcore fun u s2 hu => mkx_val hu fun a oe H2 d na ocls odict odata hq => ?_
          have hex2 : ∀ {H3 : Hp}, H3 = H2 → True := fun _ => trivial
          rcases hq with ⟨e1, e2, hd2, rfl⟩ | ⟨dx, xs2, hd2, hdn, hdx, hsame, hxl, hrd⟩
          · refine h' ρ' (.ref a) _ (.new na) (r'.new_ na) ?_
            show RD X.K CA _ _ _ _
            simp only [RD]
            exact ⟨a, C, oe, _, rfl, hC, upd_same, ocls, odata, .inl ⟨e1, e2, by rw [odict, hd2]⟩⟩
          · have hka : ∀ a' o, H' a' = some o → H2 a' = some o := fun a' o e => by
              rw [hsame a' (fun z => by rw [z, hdn] at e; cases e) (by rw [e]; exact fun z => nomatch z)]
              exact e
            have g2 : Grow ρ' H' ρ' (upd H2 a (.frz oe (.own a))) := ⟨fun _ _ h => h, fun a' o _ e => by
              have := hka a' o e
              rw [upd_ne (ne_of_none this na)]
              exact this⟩
            refine h' ρ' (.ref a) _ g2 (r'.same fun a' o e => ?_) ?_
            · have := hka a' o e
              rw [upd_ne (ne_of_none this na)]
              exact this
            · show RD X.K CA _ _ _ _
              simp only [RD]
              exact ⟨a, C, oe, _, rfl, hC, upd_same, ocls, odata, .inr ⟨dx, xs2, by rw [odict, hd2], by rw [upd_ne (ne_of_none hdx na)]; exact hdx, hxl, RDs.grow g2 _ _ hrd⟩⟩
        · exact h'.elim
      · exact h'.elim
    · split at hmk
      · split at hmk
        · cases hmk
        · cases hmk
      · cases hmk
  · cases hmk
end
end Am
set_option maxHeartbeats 1000000
/-! Am11: what is walked. -/
namespace Am
open PySem PySem.Spec PyProof.Rows L2
section
variable (K : PySem.W.Frag) (CA : Str → Option Addr)
/-- an iterator walks v -/
def ItOk (ρ : List Addr) (H : Hp) (v : Itv) (J : It) : Prop := ∀ ρ' H' S', Grow ρ H ρ' H' → Rep K CA ρ' H' S' → ∀ k o, v.at S' k = some o →
  (o = none → J.stop k H') ∧ ∀ d, o = some d → J.go k H' ∧ ∀ x H'', J.yld k H' x H'' → Grow ρ' H' ρ' H'' ∧ Rep K CA ρ' H'' S' ∧ RD K CA ρ' H'' d x
end
section
variable {K : PySem.W.Frag} {CA : Str → Option Addr} {ρ : List Addr} {H : Hp}
theorem ito_list {r : Nat} {a : Addr} (hr : ρ[r]? = some a) : ItOk K CA ρ H (.lst r) (Itl K a) := by
  intro ρ' H' S' g rp k o e
  have e : (lstAt S' r).map (fun ds => ds[k]?) = some o := e
  cases hl : lstAt S' r with
  | none => rw [hl] at e; cases e
  | some ds =>
    rw [hl] at e
    have e : ds[k]? = o := Option.some.inj e
    obtain ⟨b, xs, hb, hs, hd⟩ := rp.list hl
    rw [g.at_ r a hr] at hb
    cases hb
    refine ⟨fun z => ⟨xs, hs, ?_⟩, fun d z => ?_⟩
    · rw [z] at e
      rw [← hd.length]
      exact List.getElem?_eq_none_iff.mp e
    · rw [z] at e
      obtain ⟨x, hx, hxd⟩ := hd.get e
      refine ⟨⟨xs, x, hs, hx⟩, fun y H'' ⟨e, hy⟩ => ?_⟩
      subst e
      have := hy xs hs
      rw [hx] at this
      cases this
      exact ⟨.refl _ _, rp, hxd⟩
theorem ito_tup {ds : List D} {a : Addr} {xs : List V} (hs : SqT K H a xs) (hd : RDs K CA ρ H ds xs) : ItOk K CA ρ H (.fix ds) (Itt K a) := by
  intro ρ' H' S' g rp k o e
  have e : ds[k]? = o := Option.some.inj (show some ds[k]? = some o from e)
  have hs' := g.keep.tup hs
  have hd' := RDs.grow g _ _ hd
  refine ⟨fun z => ⟨xs, hs', ?_⟩, fun d z => ?_⟩
  · rw [z] at e
    rw [← hd'.length]
    exact List.getElem?_eq_none_iff.mp e
  · rw [z] at e
    obtain ⟨x, hx, hxd⟩ := hd'.get e
    refine ⟨⟨xs, x, hs', hx⟩, fun y H'' ⟨e, hy⟩ => ?_⟩
    subst e
    have := hy xs hs'
    rw [hx] at this
    cases this
    exact ⟨.refl _ _, rp, hxd⟩
theorem ito_str {x : Str} : ItOk K CA ρ H (.fix (x.cps.toList.map fun c => .str ⟨#[c]⟩)) (Its x) := by
  intro ρ' H' S' g rp k o e
  have e : (x.cps.toList.map fun c => D.str ⟨#[c]⟩)[k]? = o := Option.some.inj (show some _ = some o from e)
  refine ⟨fun z => ?_, fun d z => ?_⟩
  · rw [z] at e
    have := List.getElem?_eq_none_iff.mp e
    rw [List.length_map] at this
    show x.cps.size ≤ k
    simpa using this
  · rw [z, List.getElem?_map] at e
    obtain ⟨c, hc, hd⟩ := Option.map_eq_some_iff.mp e
    have hc2 : x.cps[k]? = some c := by rw [← Array.getElem?_toList]; exact hc
    refine ⟨(Array.getElem?_eq_some_iff.mp hc2).1, fun y H'' ⟨e, c', hc', hy⟩ => ?_⟩
    subst e
    subst hy
    rw [hc2] at hc'
    cases hc'
    subst hd
    exact ⟨.refl _ _, rp, mk_str⟩
theorem ito_rng {a b : Int} : ItOk K CA ρ H (.fix (rngD a b)) (Itr a (b - a).toNat) := by
  intro ρ' H' S' g rp k o e
  have e : (rngD a b)[k]? = o := Option.some.inj (show some _ = some o from e)
  unfold rngD at e
  refine ⟨fun z => ?_, fun d z => ?_⟩
  · rw [z] at e
    have := List.getElem?_eq_none_iff.mp e
    rw [List.length_map, List.length_range] at this
    exact this
  · rw [z, List.getElem?_map] at e
    obtain ⟨c, hc, hd⟩ := Option.map_eq_some_iff.mp e
    have hlt : k < (b - a).toNat := by
      have := (List.getElem?_eq_some_iff.mp hc).1
      simpa using this
    have hck : c = k := by
      have := (List.getElem?_eq_some_iff.mp hc).2
      simpa using this.symm
    subst hck
    refine ⟨hlt, fun y H'' ⟨e, hy⟩ => ?_⟩
    subst e
    subst hy
    subst hd
    exact ⟨.refl _ _, rp, mk_int⟩
theorem ito_enl {r : Nat} {a : Addr} (hr : ρ[r]? = some a) : ItOk K CA ρ H (.enl r) (Ite K a) := by
  intro ρ' H' S' g rp k o e
  have e : (lstAt S' r).map (fun ds => ds[k]?.map fun d => D.tup [.int k, d]) = some o := e
  cases hl : lstAt S' r with
  | none => rw [hl] at e; cases e
  | some ds =>
    rw [hl] at e
    have e : (ds[k]?.map fun d => D.tup [.int k, d]) = o := Option.some.inj e
    obtain ⟨b, xs, hb, hs, hd⟩ := rp.list hl
    rw [g.at_ r a hr] at hb
    cases hb
    refine ⟨fun z => ⟨xs, hs, ?_⟩, fun d z => ?_⟩
    · rw [z] at e
      rw [← hd.length]
      exact List.getElem?_eq_none_iff.mp (Option.map_eq_none_iff.mp e)
    · rw [z] at e
      obtain ⟨d0, hk, hdd⟩ := Option.map_eq_some_iff.mp e
      subst hdd
      obtain ⟨x, hx, hxd⟩ := hd.get hk
      refine ⟨⟨xs, x, hs, hx⟩, fun y H'' ⟨p, z, e1, hp, e2, hy⟩ => ?_⟩
      subst e1 e2
      have := hy xs hs
      rw [hx] at this
      cases this
      refine ⟨.new hp, rp.new_ hp, ?_⟩
      simp only [RD]
      exact ⟨p, _, rfl, SqT.of upd_same, .cons mk_int (.cons (RD.grow (.new hp) _ _ hxd) .nil)⟩
theorem ito_zipl {r q : Nat} {a b : Addr} (hr : ρ[r]? = some a) (hq : ρ[q]? = some b) : ItOk K CA ρ H (.zipl r q) (Itz K a b) := by
  intro ρ' H' S' g rp k o e
  unfold Itv.at at e
  dsimp only at e
  split at e
  · rename_i ds es hl hl2
    have e := Option.some.inj e
    obtain ⟨a', xs, hb, hs, hd⟩ := rp.list hl
    rw [g.at_ r a hr] at hb
    cases hb
    obtain ⟨b', ys, hb, hs2, hd2⟩ := rp.list hl2
    rw [g.at_ q b hq] at hb
    cases hb
    refine ⟨fun z => ⟨xs, ys, hs, hs2, ?_⟩, fun d z => ?_⟩
    · rw [z] at e
      cases hk : ds[k]? with
      | none => exact .inl (by rw [← hd.length]; exact List.getElem?_eq_none_iff.mp hk)
      | some d =>
        cases hk2 : es[k]? with
        | none => exact .inr (by rw [← hd2.length]; exact List.getElem?_eq_none_iff.mp hk2)
        | some e' => rw [hk, hk2] at e; cases e
    · rw [z] at e
      split at e
      · rename_i d1 e1 hk hk2
        cases e
        obtain ⟨x, hx, hxd⟩ := hd.get hk
        obtain ⟨y, hy, hyd⟩ := hd2.get hk2
        refine ⟨⟨xs, ys, x, y, hs, hs2, hx, hy⟩, fun v H'' ⟨p, z, w, e1, hp, e2, h1, h2⟩ => ?_⟩
        subst e1 e2
        have := h1 xs hs
        rw [hx] at this
        cases this
        have := h2 ys hs2
        rw [hy] at this
        cases this
        refine ⟨.new hp, rp.new_ hp, ?_⟩
        simp only [RD]
        exact ⟨p, _, rfl, SqT.of upd_same, .cons (RD.grow (.new hp) _ _ hxd) (.cons (RD.grow (.new hp) _ _ hyd) .nil)⟩
      · cases e
  · cases e
end
section
variable {X : Cx} {CA : Str → Option Addr} {T : Tab} {FA : Str → Option Addr} {blts : List Str} {k : Nat} {R : Str → List D → Sto → Out D} {W : WX}
abbrev SI (X : Cx) (CA : Str → Option Addr) (T : Tab) (R : Str → List D → Sto → Out D) (W : WX) (tg e : Expr) (x : Itx) : Prop := PI X tg e (tM X.K CA W (ItOk X.K CA) (evI T R x))
/-- the iterator of a list, a tuple, a text -/
theorem it_listV {tg : Expr} {pins : List (Addr × Obj)} {σ : HSt} {H : Hp} {s : Shared} {Q : It → Hp → Prop} {E : Value → Shared → Prop} {a : Addr} {xs : List V} (I : Inv X pins σ H s) (hq : SqL X.K H a xs) (q : Q (Itl X.K a) H) : wpAny (model X.prog X.w) X.A (pyIter (.ref a)) (PIE X pins σ tg Q) E s := by
  obtain ⟨its, rv, p, hz⟩ := I.list hq
  refine wpAny_pyIter_list p.isList ?_
  refine ⟨s.heap.objs.size, [s.heap.objs.size], _, _, H, rfl, I.kept (t' := s.toks) fun b o e => Heap.get?_push_of_some _ e, turn_list a _, ⟨_, Heap.get?_push_size _ rfl, rfl, rfl⟩, fun b hb => ?_, q⟩
  have e : b = s.heap.objs.size := by simpa using hb
  subst e
  exact I.fpOk (Nat.le_refl _) (I.hok.fresh (Nat.le_refl _))
theorem it_tupV {tg : Expr} {pins : List (Addr × Obj)} {σ : HSt} {H : Hp} {s : Shared} {Q : It → Hp → Prop} {E : Value → Shared → Prop} {a : Addr} {xs : List V} (I : Inv X pins σ H s) (hq : SqT X.K H a xs) (q : Q (Itt X.K a) H) : wpAny (model X.prog X.w) X.A (pyIter (.ref a)) (PIE X pins σ tg Q) E s := by
  obtain ⟨its, rv, p, hz⟩ := I.tuple hq
  refine wpAny_pyIter_tuple (show s.heap.IsTuple a its.toArray from p) ?_
  refine ⟨s.heap.objs.size, [s.heap.objs.size], _, _, H, rfl, I.kept (t' := s.toks) fun b o e => Heap.get?_push_of_some _ e, turn_tuple a _, ⟨_, Heap.get?_push_size _ rfl, rfl, rfl⟩, fun b hb => ?_, q⟩
  have e : b = s.heap.objs.size := by simpa using hb
  subst e
  exact I.fpOk (Nat.le_refl _) (I.hok.fresh (Nat.le_refl _))
theorem it_strV {tg : Expr} {pins : List (Addr × Obj)} {σ : HSt} {H : Hp} {s : Shared} {Q : It → Hp → Prop} {E : Value → Shared → Prop} {x : Str} {t : Tok} (I : Inv X pins σ H s) (q : Q (Its x) H) : wpAny (model X.prog X.w) X.A (pyIter (.str x t)) (PIE X pins σ tg Q) E s := by
  cases ha : x.cps.all (· < 128)
  · exact wpAny_pyIter_wide ha (pi_one (tk := s.toks) I _ (turn_str _ x t "str_iterator" (.inr rfl)) ⟨_, Heap.get?_push_size _ rfl, rfl, rfl⟩ q)
  · exact wpAny_pyIter_ascii ha (pi_one (tk := s.toks) I _ (turn_str _ x t "str_ascii_iterator" (.inl rfl)) ⟨_, Heap.get?_push_size _ rfl, rfl, rfl⟩ q)
theorem good_it {ρ : List Addr} {σ : HSt} {H : Hp} {v : Itv} {S : Sto} {Q : It → Hp → Prop} {J : It} (h : Good X.K CA W (ItOk X.K CA) (.ok v S) ρ σ H Q) (r : Rep X.K CA ρ H S) (i : ItOk X.K CA ρ H v J) : Q J H := h ρ J H (.refl _ _) r i
theorem si_seq {tg e : Expr} {x : Am.X} (he : SE X CA T R W e x) : SI X CA T R W tg e (.seq x) := by
  refine ⟨fun pins s σ H Q I ⟨ρ, L, S, r, l, h⟩ => ?_⟩
  simp only [evI] at h
  have h0 := step1 (m := evE T R x) (P := PD X.K CA) (P' := ItOk X.K CA) r l h (R := fun v H1 => ∃ ρ1 d S1, Rep X.K CA ρ1 H1 S1 ∧ RD X.K CA ρ1 H1 d v ∧ Good X.K CA W (ItOk X.K CA) (match d with
    | .tup ds => .ok (.fix ds) S1
    | .str x => .ok (.fix (x.cps.toList.map fun c => .str ⟨#[c]⟩)) S1
    | .ref r => match lstAt S1 r with
      | some _ => .ok (.lst r) S1
      | none => .bad
    | _ => .bad) ρ1 σ H1 Q) (fun ρ1 d S1 v H1 g1 r1 l1 p1 h1 => ⟨ρ1, d, S1, r1, p1, h1⟩)
  refine thn (he.run pins s σ H _ I h0) fun u s1 ⟨v, H1, I1, rv, ρ1, d, S1, r1, p1, h1⟩ => ?_
  split at h1
  · obtain ⟨a, xs, rfl, hs, hd⟩ := rd_tup p1
    obtain rfl : u = Value.ref a := rv
    exact it_tupV I1 hs (good_it h1 r1 (ito_tup hs hd))
  · cases rd_str p1
    obtain ⟨t, rfl⟩ := rv
    exact it_strV I1 (good_it h1 r1 ito_str)
  · split at h1
    · rename_i ds hl
      obtain ⟨a, xs, rfl, hs, hd⟩ := r1.list_v p1 hl
      obtain ⟨b, hb, e⟩ := p1.ref
      cases e
      obtain rfl : u = Value.ref a := rv
      exact it_listV I1 hs (good_it h1 r1 (ito_list hb))
    · exact h1.elim
  · exact h1.elim
theorem si_rng1 (b : Bd X CA T FA blts k R W) {tg e : Expr} {x : Am.X} {p pos : Pos} (hg : Gl X "range") (hb : ("range" : Str) ∈ blts) (hs : nostar e = true) (he : SE X CA T R W e x) : SI X CA T R W tg (.Call (.Name "range" p) [e] [] pos) (.rng1 x) := by
  refine ⟨fun pins s σ H Q I ⟨ρ, L, S, r, l, h⟩ => ?_⟩
  refine (pi_range1 hg (b.g.blt _ hb) (pa_cons he pa_nil (star1 hs)) (star1 hs)).run pins s σ H Q I ?_
  simp only [evI] at h
  refine step1 r l h fun ρ1 d S1 v H1 g1 r1 l1 p1 h1 => ?_
  split at h1
  · rename_i j
    cases rd_int p1
    split at h1
    · rename_i hz
      unfold rngOk at hz
      have hz := of_decide_eq_true hz
      refine ⟨j, rfl, hz.2.2.1, hz.2.2.2, ?_⟩
      have := good_it h1 r1 (ito_rng (K := X.K) (CA := CA) (a := 0) (b := j))
      rwa [Int.sub_zero] at this
    · exact h1.elim
  · exact h1.elim
theorem si_rng2 (b : Bd X CA T FA blts k R W) {tg e f : Expr} {x y : Am.X} {p pos : Pos} (hg : Gl X "range") (hb : ("range" : Str) ∈ blts) (hs : nostar e = true) (hs2 : nostar f = true) (he : SE X CA T R W e x) (hf : SE X CA T R W f y) : SI X CA T R W tg (.Call (.Name "range" p) [e, f] [] pos) (.rng2 x y) := by
  refine ⟨fun pins s σ H Q I ⟨ρ, L, S, r, l, h⟩ => ?_⟩
  refine (pi_range2 hg (b.g.blt _ hb) (pa_cons he (pa_cons hf pa_nil (star1 hs2)) (star1 hs)) (by rw [star1 hs, star1 hs2]; rfl) (by rw [star1 hs2]; rfl)).run pins s σ H Q I ?_
  simp only [evI] at h
  refine step1 r l h fun ρ1 d S1 v H1 g1 r1 l1 p1 h1 => ?_
  refine step1 r1 l1 h1 fun ρ2 d2 S2 v2 H2 g2 r2 l2 p2 h2 => ?_
  split at h2
  · rename_i i j
    cases rd_int p1
    cases rd_int p2
    split at h2
    · rename_i hz
      unfold rngOk at hz
      have hz := of_decide_eq_true hz
      exact ⟨i, j, rfl, hz, good_it h2 r2 ito_rng⟩
    · exact h2.elim
  · exact h2.elim
theorem si_enm (b : Bd X CA T FA blts k R W) {e : Expr} {elts : List Expr} {kk : Nat} {x : Am.X} {p pos tpos : Pos} (hg : Gl X "enumerate") (hb : ("enumerate" : Str) ∈ blts) (hs : nostar e = true) (he : SE X CA T R W e x) : SI X CA T R W (.Tuple elts kk tpos) (.Call (.Name "enumerate" p) [e] [] pos) (.enl x) := by
  refine ⟨fun pins s σ H Q I ⟨ρ, L, S, r, l, h⟩ => ?_⟩
  refine (pi_enum hg (b.g.blt _ hb) (pa_cons he pa_nil (star1 hs)) (star1 hs)).run pins s σ H Q I ?_
  simp only [evI] at h
  refine step1 r l h fun ρ1 d S1 v H1 g1 r1 l1 p1 h1 => ?_
  split at h1
  · split at h1
    · rename_i r0 ds hl
      obtain ⟨a, xs, rfl, hs, hd⟩ := r1.list_v p1 hl
      obtain ⟨b, hb, e⟩ := p1.ref
      cases e
      exact ⟨a, xs, rfl, hs, good_it h1 r1 (ito_enl hb)⟩
    · exact h1.elim
  · exact h1.elim
theorem si_zip (b : Bd X CA T FA blts k R W) {e f : Expr} {elts : List Expr} {kk : Nat} {x y : Am.X} {p pos tpos : Pos} (hg : Gl X "zip") (hb : ("zip" : Str) ∈ blts) (hs : nostar e = true) (hs2 : nostar f = true) (he : SE X CA T R W e x) (hf : SE X CA T R W f y) : SI X CA T R W (.Tuple elts kk tpos) (.Call (.Name "zip" p) [e, f] [] pos) (.zip x y) := by
  refine ⟨fun pins s σ H Q I ⟨ρ, L, S, r, l, h⟩ => ?_⟩
  refine (pi_zip hg (b.g.blt _ hb) (pa_cons he (pa_cons hf pa_nil (star1 hs2)) (star1 hs)) (star1 hs) (stars (es := [f]) (by simp [hs2]))).run pins s σ H Q I ?_
  simp only [evI] at h
  refine step1 r l h fun ρ1 d S1 v H1 g1 r1 l1 p1 h1 => ?_
  refine step1 r1 l1 h1 fun ρ2 d2 S2 v2 H2 g2 r2 l2 p2 h2 => ?_
  split at h2
  · split at h2
    · rename_i r0 q0 ds es hl hl2
      obtain ⟨a, xs, rfl, hs, hd⟩ := r2.list_v (RD.grow g2 _ _ p1) hl
      obtain ⟨b, ys, rfl, hs2, hd2⟩ := r2.list_v p2 hl2
      obtain ⟨a', ha, e⟩ := p1.ref
      cases e
      obtain ⟨b', hb, e⟩ := p2.ref
      cases e
      exact ⟨a, b, xs, ys, rfl, hs, hs2, good_it h2 r2 (ito_zipl (g2.at_ _ _ ha) hb)⟩
    · exact h2.elim
  · exact h2.elim
end
end Am
set_option maxHeartbeats 1000000
/-! Am12: statements. -/
namespace Am
open PySem PySem.Spec PyProof.Rows L2
section
variable (K : PySem.W.Frag) (CA : Str → Option Addr) (W : WX)
def GoodS (o : SOut) (ρ : List Addr) (H : Hp) (D : Ends) : Prop :=
  match o with
  | .nx L' S' => ∀ ρ' σ' H', Grow ρ H ρ' H' → Rep K CA ρ' H' S' → RL K CA ρ' H' σ' L' → D.nx σ' H'
  | .rt d S' => ∀ ρ' v H', Grow ρ H ρ' H' → Rep K CA ρ' H' S' → RD K CA ρ' H' d v → D.rt v H'
  | .bk L' S' => ∀ ρ' σ' H', Grow ρ H ρ' H' → Rep K CA ρ' H' S' → RL K CA ρ' H' σ' L' → D.bk σ' H'
  | .ct L' S' => ∀ ρ' σ' H', Grow ρ H ρ' H' → Rep K CA ρ' H' S' → RL K CA ρ' H' σ' L' → D.ct σ' H'
  | .exc L' e S' => ∀ ρ' σ' H' c dd, Grow ρ H ρ' H' → Rep K CA ρ' H' S' → RL K CA ρ' H' σ' L' → RX K CA ρ' H' e c dd → W c dd σ' H'
  | .bad => False
def tSM (m : Loc → Sto → SOut) : TS := fun D σ H => ∃ ρ L S, Rep K CA ρ H S ∧ RL K CA ρ H σ L ∧ GoodS K CA W (m L S) ρ H D
end
section
variable {K : PySem.W.Frag} {CA : Str → Option Addr} {W : WX} {ρ ρ1 : List Addr} {H H1 : Hp} {σ : HSt} {D : Ends}
theorem GoodS.grow {o : SOut} (g : Grow ρ H ρ1 H1) (h : GoodS K CA W o ρ H D) : GoodS K CA W o ρ1 H1 D := by
  cases o with
  | nx L' S' => exact fun ρ' σ' H' g' r l => h ρ' σ' H' (g.trans g') r l
  | rt d S' => exact fun ρ' v H' g' r l => h ρ' v H' (g.trans g') r l
  | bk L' S' => exact fun ρ' σ' H' g' r l => h ρ' σ' H' (g.trans g') r l
  | ct L' S' => exact fun ρ' σ' H' g' r l => h ρ' σ' H' (g.trans g') r l
  | exc L' e S' => exact fun ρ' σ' H' c dd g' r l x => h ρ' σ' H' c dd (g.trans g') r l x
  | bad => exact h
theorem GoodS.toS {α β : Type} {P : List Addr → Hp → α → β → Prop} {o : Out α} {L : Loc} {f : α → Sto → SOut} (h : GoodS K CA W (o.toS L f) ρ H D) (l : RL K CA ρ H σ L) :
    Good K CA W P o ρ σ H fun v H1 => ∃ ρ1 d S1, Grow ρ H ρ1 H1 ∧ Rep K CA ρ1 H1 S1 ∧ RL K CA ρ1 H1 σ L ∧ P ρ1 H1 d v ∧ GoodS K CA W (f d S1) ρ1 H1 D := by
  cases o with
  | ok d S1 => exact fun ρ1 v H1 g r p => ⟨ρ1, d, S1, g, r, l.grow g, p, GoodS.grow g h⟩
  | exc e S1 => exact fun ρ' H' c dd g r x => h ρ' σ H' c dd g r (l.grow g) x
  | bad => exact h
/-- the first step of a statement -/
theorem stepS {α β : Type} {P : List Addr → Hp → α → β → Prop} {m : Loc → Sto → Out α} {L : Loc} {S : Sto} {f : α → Sto → SOut} {Q : β → Hp → Prop} (r : Rep K CA ρ H S) (l : RL K CA ρ H σ L) (h : GoodS K CA W ((m L S).toS L f) ρ H D)
    (k : ∀ ρ1 d S1 v H1, Grow ρ H ρ1 H1 → Rep K CA ρ1 H1 S1 → RL K CA ρ1 H1 σ L → P ρ1 H1 d v → GoodS K CA W (f d S1) ρ1 H1 D → Q v H1) : tM K CA W P m σ H Q :=
  ⟨ρ, L, S, r, l, (GoodS.toS (P := P) h l).imp fun v H1 ⟨ρ1, d, S1, g, r1, l1, p, q⟩ => k ρ1 d S1 v H1 g r1 l1 p q⟩
theorem GoodS.then_ {o : SOut} {f : Loc → Sto → SOut} (h : GoodS K CA W (o.then f) ρ H D) : GoodS K CA W o ρ H { D with nx := fun σ' H' => tSM K CA W f D σ' H' } := by
  cases o with
  | nx L' S' => exact fun ρ' σ' H' g r l => ⟨ρ', L', S', r, l, GoodS.grow g h⟩
  | rt d S' => exact h
  | bk L' S' => exact h
  | ct L' S' => exact h
  | exc L' e S' => exact h
  | bad => exact h
theorem GoodS.turn_ {o : SOut} {f : Loc → Sto → SOut} {N : HSt → Hp → Prop} (h : GoodS K CA W (o.turn f) ρ H D) (hN : ∀ ρ' σ' H' L' S', Grow ρ H ρ' H' → Rep K CA ρ' H' S' → RL K CA ρ' H' σ' L' → GoodS K CA W (f L' S') ρ' H' D → N σ' H') : GoodS K CA W o ρ H { D with nx := N, ct := N, bk := D.nx } := by
  cases o with
  | nx L' S' => exact fun ρ' σ' H' g r l => hN ρ' σ' H' L' S' g r l (GoodS.grow g h)
  | rt d S' => exact h
  | bk L' S' => exact h
  | ct L' S' => exact fun ρ' σ' H' g r l => hN ρ' σ' H' L' S' g r l (GoodS.grow g h)
  | exc L' e S' => exact h
  | bad => exact h
theorem RL.set {L : Am.Loc} {i : Nat} {d : Am.D} {v : V} (l : RL K CA ρ H σ L) (h : RD K CA ρ H d v) : RL K CA ρ H (σ.set i (some v)) (L.set i (some d)) := by
  refine ⟨by rw [List.length_set, List.length_set]; exact l.1, fun j e he => ?_⟩
  by_cases hij : i = j
  · subst hij
    by_cases hi : i < L.length
    · rw [List.getElem?_set_self hi] at he
      cases he
      exact ⟨v, by rw [List.getElem?_set_self (by rw [← l.1]; exact hi)], h⟩
    · rw [List.getElem?_eq_none (by rw [List.length_set]; omega)] at he
      cases he
  · rw [List.getElem?_set_ne hij] at he
    obtain ⟨w, h1, h2⟩ := l.2 j e he
    exact ⟨w, by rw [List.getElem?_set_ne hij]; exact h1, h2⟩
end
section
variable {X : Cx} {CA : Str → Option Addr} {T : Tab} {FA : Str → Option Addr} {blts : List Str} {k : Nat} {R : Str → List D → Sto → Out D} {W : WX} {fu : Nat}
abbrev SSt (X : Cx) (CA : Str → Option Addr) (T : Tab) (R : Str → List D → Sto → Out D) (fu : Nat) (W : WX) (st : Stmt) (x : Am.S) : Prop := PS X st (tSM X.K CA W (evS T R fu x))
abbrev SSs (X : Cx) (CA : Str → Option Addr) (T : Tab) (R : Str → List D → Sto → Out D) (fu : Nat) (W : WX) (st : List Stmt) (x : Ss) : Prop := PSs X st (tSM X.K CA W (evSs T R fu x))
theorem ss_nil : SSs X CA T R fu W [] .nil := pssI pss_nil fun D σ H ⟨ρ, L, S, r, l, h⟩ => h ρ σ H (.refl _ _) r l
theorem ss_cons {st : Stmt} {rest : List Stmt} {x : Am.S} {xs : Ss} (h1 : SSt X CA T R fu W st x) (h2 : SSs X CA T R fu W rest xs) : SSs X CA T R fu W (st :: rest) (.cons x xs) := by
  refine pssI (pss_cons h1 h2) fun D σ H ⟨ρ, L, S, r, l, h⟩ => ?_
  simp only [evSs] at h
  exact ⟨ρ, L, S, r, l, GoodS.then_ h⟩
theorem ss_pass {pos : Pos} : SSt X CA T R fu W (.Pass pos) .pass := psI ps_pass fun D σ H ⟨ρ, L, S, r, l, h⟩ => h ρ σ H (.refl _ _) r l
theorem ss_doc {x : Str} {j : Nat} {pos pos' : Pos} : SSt X CA T R fu W (.Expr (.Constant (.str x) j pos) pos') .pass := psI ps_doc fun D σ H ⟨ρ, L, S, r, l, h⟩ => h ρ σ H (.refl _ _) r l
theorem ss_brk {pos : Pos} : SSt X CA T R fu W (.Break pos) .brk := psI ps_break fun D σ H ⟨ρ, L, S, r, l, h⟩ => h ρ σ H (.refl _ _) r l
theorem ss_cont {pos : Pos} : SSt X CA T R fu W (.Continue pos) .cont := psI ps_continue fun D σ H ⟨ρ, L, S, r, l, h⟩ => h ρ σ H (.refl _ _) r l
theorem ss_retN {pos : Pos} : SSt X CA T R fu W (.Return none pos) .retN := psI ps_retN fun D σ H ⟨ρ, L, S, r, l, h⟩ => h ρ .non H (.refl _ _) r mk_non
theorem ss_ret {e : Expr} {x : Am.X} {pos : Pos} (he : SE X CA T R W e x) : SSt X CA T R fu W (.Return (some e) pos) (.ret x) := by
  refine psI (ps_ret he) fun D σ H ⟨ρ, L, S, r, l, h⟩ => ?_
  simp only [evS] at h
  exact stepS r l h fun ρ1 d S1 v H1 g1 r1 l1 p1 h1 => h1 ρ1 v H1 (.refl _ _) r1 p1
theorem ss_exp {e : Expr} {x : Am.X} {pos : Pos} (he : SE X CA T R W e x) (hs : swapsWith e none pos.line X.env = pure false) : SSt X CA T R fu W (.Expr e pos) (.exp x) := by
  refine psI (ps_expr he hs) fun D σ H ⟨ρ, L, S, r, l, h⟩ => ?_
  simp only [evS] at h
  exact stepS r l h fun ρ1 d S1 v H1 g1 r1 l1 p1 h1 => h1 ρ1 σ H1 (.refl _ _) r1 l1
theorem ss_set (b : Bd X CA T FA blts k R W) {i : Nat} {y : Str} {e : Expr} {x : Am.X} {pos pos' : Pos} (hi : X.N[i]? = some y) (hx : X.env.scope.names.lookup y = some .local) (he : SE X CA T R W e x) (hs : swapsWith e (some (.Name y pos')) pos.line X.env = pure false) :
    SSt X CA T R fu W (.Assign [.Name y pos'] e pos) (.set i x) := by
  refine psI (ps_set b.nd hi (.inl hx) he hs (.inr hx)) fun D σ H ⟨ρ, L, S, r, l, h⟩ => ?_
  simp only [evS] at h
  exact stepS r l h fun ρ1 d S1 v H1 g1 r1 l1 p1 h1 => h1 ρ1 _ H1 (.refl _ _) r1 (l1.set p1)
theorem ss_setF (b : Bd X CA T FA blts k R W) {i : Nat} {y : Str} {e : Expr} {x : Am.X} {pos pos' : Pos} (hi : X.N[i]? = some y) (hx : L2.Loc X.env.scope y) (hf : X.fn y = true ∨ X.env.scope.names.lookup y = some .local) (he : SE X CA T R W e x) (hs : swapsWith e (some (.Name y pos')) pos.line X.env = pure false) :
    SSt X CA T R fu W (.Assign [.Name y pos'] e pos) (.set i x) := by
  refine psI (ps_set b.nd hi hx he hs hf) fun D σ H ⟨ρ, L, S, r, l, h⟩ => ?_
  simp only [evS] at h
  exact stepS r l h fun ρ1 d S1 v H1 g1 r1 l1 p1 h1 => h1 ρ1 _ H1 (.refl _ _) r1 (l1.set p1)
theorem ss_ite {c : Expr} {p q : List Stmt} {x : Am.X} {a b : Ss} {pos : Pos} (hc : ST X CA T R W c x) (ha : SSs X CA T R fu W p a) (hb : SSs X CA T R fu W q b) : SSt X CA T R fu W (.If c p q pos) (.ite x a b) := by
  refine psI (ps_if hc ha hb) fun D σ H ⟨ρ, L, S, r, l, h⟩ => ?_
  simp only [evS] at h
  have h' : GoodS X.K CA W ((evB T R x L S).toS L fun kb S1 => if kb = true then evSs T R fu a L S1 else evSs T R fu b L S1) ρ H D := by
    unfold evB
    cases o : evE T R x L S with
    | ok d S1 =>
      rw [o] at h
      simp only [Out.ok_toS, Out.ok_bind] at h ⊢
      exact h
    | exc e S1 => rw [o] at h; exact h
    | bad => rw [o] at h; exact h
  refine stepS r l h' fun ρ1 kb S1 v H1 g1 r1 l1 p1 h1 => ?_
  have e : v = kb := p1
  subst e
  cases v with
  | true => simp only [if_true] at h1 ⊢; exact ⟨ρ1, L, S1, r1, l1, h1⟩
  | false => simp only [Bool.false_eq_true, if_false] at h1 ⊢; exact ⟨ρ1, L, S1, r1, l1, h1⟩
theorem ss_while {c : Expr} {p : List Stmt} {x : Am.X} {a : Ss} {pos : Pos} (hp : PassesOwn (model X.prog X.w) X.A X.env X.xe) (hc : ST X CA T R W c x) (ha : SSs X CA T R fu W p a) : SSt X CA T R fu W (.While c p [] pos) (.whl x a) := by
  refine psI (ps_while hp hc ha) fun D σ H ⟨ρ, L, S, r, l, h⟩ => ?_
  simp only [evS] at h
  refine ⟨fun m σ H => ∃ ρ L S, Rep X.K CA ρ H S ∧ RL X.K CA ρ H σ L ∧ GoodS X.K CA W (whlL (evB T R x) (fun L S => evSs T R fu a L S) m L S) ρ H D, ⟨fu, ρ, L, S, r, l, h⟩, ?_⟩
  intro m σ H ⟨ρ, L, S, r, l, h⟩
  cases m with
  | zero => exact h.elim
  | succ m =>
    unfold whlL at h
    refine stepS r l h fun ρ1 kb S1 v H1 g1 r1 l1 p1 h1 => ?_
    have e : v = kb := p1
    subst e
    cases v with
    | true =>
      simp only [if_true] at h1 ⊢
      exact ⟨_, fun σ' H' z => ⟨m, Nat.lt_succ_self _, z⟩, ρ1, L, S1, r1, l1, GoodS.turn_ h1 fun ρ' σ' H' L' S' g r' l' h' => ⟨ρ', L', S', r', l', h'⟩⟩
    | false =>
      simp only [Bool.false_eq_true, if_false] at h1 ⊢
      exact h1 ρ1 σ H1 (.refl _ _) r1 l1
/-! ### targets -/
def gTgt (K : PySem.W.Frag) : Tg → TG
  | .one i => gName i
  | .two i j => gTup K 2 (gCons (gName i) (gCons (gName j) gNil))
  | .three i j k => gTup K 3 (gCons (gName i) (gCons (gName j) (gCons (gName k) gNil)))
/-- a name may be stored -/
def StOk (X : Cx) (i : Nat) (y : Str) : Prop := X.N[i]? = some y ∧ L2.Loc X.env.scope y ∧ (X.fn y = true ∨ X.env.scope.names.lookup y = some .local)
theorem sg_one (nd : X.N.Nodup) {i : Nat} {y : Str} {p : Pos} (h : StOk X i y) : PG X (.Name y p) (gTgt X.K (.one i)) := pg_name nd h.1 h.2.1 h.2.2
theorem sg_two (hc : X.calm = true) (nd : X.N.Nodup) {i j : Nat} {y z : Str} {p q pos : Pos} {kk : Nat} (h : StOk X i y) (h2 : StOk X j z) : PG X (.Tuple [.Name y p, .Name z q] kk pos) (gTgt X.K (.two i j)) :=
  pg_tup hc (pgs_cons (pg_name nd h.1 h.2.1 h.2.2) (pgs_cons (pg_name nd h2.1 h2.2.1 h2.2.2) pgs_nil))
theorem sg_three (hc : X.calm = true) (nd : X.N.Nodup) {i j m : Nat} {y z u : Str} {p q o pos : Pos} {kk : Nat} (h : StOk X i y) (h2 : StOk X j z) (h3 : StOk X m u) : PG X (.Tuple [.Name y p, .Name z q, .Name u o] kk pos) (gTgt X.K (.three i j m)) :=
  pg_tup hc (pgs_cons (pg_name nd h.1 h.2.1 h.2.2) (pgs_cons (pg_name nd h2.1 h2.2.1 h2.2.2) (pgs_cons (pg_name nd h3.1 h3.2.1 h3.2.2) pgs_nil)))
def tgVars : Tg → List Nat
  | .one i => [i]
  | .two i j => [i, j]
  | .three i j k => [i, j, k]
def stAll : List Nat → List V → HSt → HSt
  | i :: is, v :: vs, σ => stAll is vs (σ.set i (some v))
  | _, _, σ => σ
theorem tgt_ok {K : PySem.W.Frag} {tg : Tg} {d : D} {x : V} {L L1 : Loc} {σ : HSt} {H : Hp} {ρ : List Addr} {Q : HSt → Hp → Prop} (e : setTg tg d L = some L1) (hd : RD K CA ρ H d x) (l : RL K CA ρ H σ L)
    (q : ∀ vs, RL K CA ρ H (stAll (tgVars tg) vs σ) L1 → Q (stAll (tgVars tg) vs σ) H) : gTgt K tg x σ H Q := by
  cases tg with
  | one i =>
    cases e
    exact q [x] (l.set hd)
  | two i j =>
    cases d with
    | tup ds =>
      match ds, e with
      | [a, b], e =>
        cases e
        obtain ⟨p, xs, rfl, hs, hr⟩ := rd_tup hd
        obtain ⟨v, u, rfl, h1, h2⟩ := rds2 hr
        exact ⟨p, [v, u], rfl, hs, rfl, v, [u], rfl, u, [], rfl, rfl, q [v, u] ((l.set h1).set h2)⟩
    | _ => cases e
  | three i j m =>
    cases d with
    | tup ds =>
      match ds, e with
      | [a, b, c], e =>
        cases e
        obtain ⟨p, xs, rfl, hs, hr⟩ := rd_tup hd
        simp only [RDs] at hr
        obtain ⟨v, r1, rfl, h1, u, r2, rfl, h2, w, r3, rfl, h3, rfl⟩ := hr
        exact ⟨p, [v, u, w], rfl, hs, rfl, v, [u, w], rfl, u, [w], rfl, w, [], rfl, rfl, q [v, u, w] (((l.set h1).set h2).set h3)⟩
    | _ => cases e
theorem ss_for (hc : X.calm = true) (hp : PassesOwn (model X.prog X.w) X.A X.env X.xe) {tg e : Expr} {g : Tg} {it : Itx} {p : List Stmt} {a : Ss} {pos : Pos} (hi : SI X CA T R W tg e it) (hg : PG X tg (gTgt X.K g)) (ha : SSs X CA T R fu W p a)
    (hs : ∀ x, foldedSetIterable e X.env x = pure x) : SSt X CA T R fu W (.For tg e p [] pos) (.for_ g it a) := by
  refine psI (ps_for hp hc hi hg ha hs) fun D σ H ⟨ρ, L, S, r, l, h⟩ => ?_
  simp only [evS] at h
  refine stepS r l h fun ρ1 v S1 J H1 g1 r1 l1 p1 h1 => ?_
  refine ⟨fun i m σ H => ∃ ρ L S, Grow ρ1 H1 ρ H ∧ Rep X.K CA ρ H S ∧ RL X.K CA ρ H σ L ∧ GoodS X.K CA W (forL v g (fun L S => evSs T R fu a L S) m i L S) ρ H D, ⟨_, ρ1, L, S1, .refl _ _, r1, l1, h1⟩, ?_⟩
  intro i m σ H ⟨ρ, L, S, gg, r, l, h⟩
  cases m with
  | zero => exact h.elim
  | succ m =>
    unfold forL at h
    cases hv : v.at S i with
    | none => rw [hv] at h; exact h.elim
    | some o =>
      rw [hv] at h
      obtain ⟨z1, z2⟩ := p1 ρ H S gg r i o hv
      cases o with
      | none => exact .inl ⟨z1 rfl, h ρ σ H (.refl _ _) r l⟩
      | some d =>
        dsimp only at h
        obtain ⟨z3, z4⟩ := z2 d rfl
        cases hL : setTg g d L with
        | none => rw [hL] at h; exact h.elim
        | some L1 =>
          rw [hL] at h
          refine .inr ⟨z3, _, fun σ' H' z => ⟨m, Nat.lt_succ_self _, z⟩, fun x H' hy => ?_⟩
          obtain ⟨w1, w2, w3⟩ := z4 x H' hy
          exact tgt_ok hL w3 (l.grow w1) fun vs l2 => ⟨ρ, L1, S, w2, l2, GoodS.turn_ (GoodS.grow w1 h) fun ρ' σ' H' L' S' g' r' l' h' => ⟨ρ', L', S', gg.trans (w1.trans g'), r', l', h'⟩⟩
end
end Am
set_option maxHeartbeats 1000000
/-! Am13: comprehensions, dict displays, stores, raise. -/
namespace Am
open PySem PySem.Spec PyProof.Rows L2
/-! ### wiped slots -/
theorem wipe_in {σ : HSt} {j : Nat} : ∀ {vs : List Nat}, j ∈ vs → j < σ.length → (wipe σ vs)[j]? = some none
  | v :: vs, hm, hl => by
    unfold wipe
    by_cases h : v = j
    · subst h
      rw [List.getElem?_set_self (by rw [wipe_length]; exact hl)]
    · rw [List.getElem?_set_ne h]
      rcases List.mem_cons.mp hm with e | e
      · exact absurd e.symm h
      · exact wipe_in e hl
theorem wipe_eq {σ τ : HSt} {vs : List Nat} (hl : σ.length = τ.length) (h : ∀ j, j ∉ vs → σ[j]? = τ[j]?) : wipe σ vs = wipe τ vs := by
  apply List.ext_getElem?
  intro j
  by_cases hm : j ∈ vs
  · by_cases hj : j < σ.length
    · rw [wipe_in hm hj, wipe_in hm (by rw [← hl]; exact hj)]
    · rw [List.getElem?_eq_none (by rw [wipe_length]; omega), List.getElem?_eq_none (by rw [wipe_length]; omega)]
  · rw [wipe_out hm, wipe_out hm, h j hm]
theorem stAll_length : ∀ (is : List Nat) (xs : List V) (σ : HSt), (stAll is xs σ).length = σ.length
  | [], _, _ => rfl
  | _ :: _, [], _ => rfl
  | i :: is, x :: xs, σ => by
    unfold stAll
    rw [stAll_length is xs, List.length_set]
theorem stAll_out : ∀ (is : List Nat) (xs : List V) (σ : HSt) (j : Nat), j ∉ is → (stAll is xs σ)[j]? = σ[j]?
  | [], _, _, _, _ => rfl
  | _ :: _, [], _, _, _ => rfl
  | i :: is, x :: xs, σ, j, h => by
    unfold stAll
    rw [stAll_out is xs _ j (fun m => h (List.mem_cons_of_mem _ m)), List.getElem?_set_ne (fun e => h (by rw [e]; exact List.mem_cons_self ..))]
theorem wipe_stAll {σ : HSt} {is vs : List Nat} {xs : List V} (h : ∀ i ∈ is, i ∈ vs) : wipe (stAll is xs (wipe σ vs)) vs = wipe σ vs := by
  refine wipe_eq (by rw [stAll_length, wipe_length]) fun j hj => ?_
  rw [stAll_out is xs _ j (fun m => hj (h j m)), wipe_out hj]
theorem rl_wipe {K : PySem.W.Frag} {CA : Str → Option Addr} {ρ : List Addr} {H : Hp} {σ : HSt} {L : Am.Loc} (l : RL K CA ρ H σ L) : ∀ vs : List Nat, RL K CA ρ H (wipe σ vs) (wipeL L vs)
  | [] => l
  | v :: vs => by
    have q := rl_wipe l vs
    unfold wipe wipeL
    refine ⟨by rw [List.length_set, List.length_set]; exact q.1, fun j e he => ?_⟩
    by_cases hij : v = j
    · subst hij
      by_cases hi : v < (wipeL L vs).length
      · rw [List.getElem?_set_self hi] at he; cases he
      · rw [List.getElem?_eq_none (by rw [List.length_set]; omega)] at he; cases he
    · rw [List.getElem?_set_ne hij] at he
      obtain ⟨w, h1, h2⟩ := q.2 j e he
      exact ⟨w, by rw [List.getElem?_set_ne hij]; exact h1, h2⟩
section
variable {X : Cx} {CA : Str → Option Addr} {T : Tab} {FA : Str → Option Addr} {blts : List Str} {k : Nat} {R : Str → List D → Sto → Out D} {W : WX} {fu : Nat}
/-- no exception -/
def W0 : WX := fun _ _ _ _ => False
theorem ptsI {es : List Expr} {t t' : TT} (h : PTs X es t) (q : ∀ σ H Q, t' σ H Q → t σ H Q) : PTs X es t' := ⟨fun pins s σ H Q I z => h.run pins s σ H Q I (q σ H Q z)⟩
theorem sts_nil : PTs X [] (tM X.K CA W PB (evT T R .nil)) := ptsI pts_nil fun σ H Q ⟨ρ, L, S, r, l, h⟩ => by
  simp only [evT] at h
  exact Good.ok h r (v := true) rfl
theorem sts_one {e : Expr} {x : Am.X} (h : ST X CA T R W e x) : PTs X [e] (tM X.K CA W PB (evT T R (.cons x .nil))) := ptsI (pts_one h) fun σ H Q ⟨ρ, L, S, r, l, h⟩ => by
  simp only [evT] at h
  exact ⟨ρ, L, S, r, l, h⟩
theorem comp_core {g : Tg} {it : Itx} {c : Xs} {e : Am.X} {vs : List Nat} {σ : HSt} {H : Hp} {Q : VK} (hvs : ∀ i ∈ tgVars g, i ∈ vs) (h : tM X.K CA W (PD X.K CA) (evE T R (.comp e g it c vs)) σ H Q) :
    tLc (tM X.K CA W (ItOk X.K CA) (evI T R it)) (gTgt X.K g) (tM X.K CA W0 PB (evT T R c)) (tM X.K CA W0 (PD X.K CA) (evE T R e)) vs σ H Q := by
  obtain ⟨ρ, L, S, r, l, h⟩ := h
  simp only [evE] at h
  refine step1 r l h fun ρ1 v S1 J H1 g1 r1 l1 p1 h1 => ?_
  intro Dn hD
  have g2 : Grow ρ1 H1 (ρ1 ++ [Dn]) (upd H1 Dn (.lst [])) := .alloc hD
  have r2 : Rep X.K CA (ρ1 ++ [Dn]) (upd H1 Dn (.lst [])) (S1 ++ [.lst []]) := r1.alloc hD ⟨[], upd_same, RDs.nil⟩
  have hat : (ρ1 ++ [Dn])[S1.length]? = some Dn := by rw [← r1.len]; simp
  have lw : RL X.K CA (ρ1 ++ [Dn]) (upd H1 Dn (.lst [])) (wipe σ vs) (wipeL L vs) := rl_wipe (l1.grow g2) vs
  refine ⟨fun i m H => ∃ ρ S, Grow (ρ1 ++ [Dn]) (upd H1 Dn (.lst [])) ρ H ∧ Rep X.K CA ρ H S ∧ Good X.K CA W (PD X.K CA) (compL v g S1.length (fun L S => evT T R c L S) (fun L S => evE T R e L S) m i (wipeL L vs) S) ρ σ H Q, ⟨_, _, _, .refl _ _, r2, Good.grow g2 h1⟩, ?_⟩
  intro i m H ⟨ρ, S, gg, r, h⟩
  cases m with
  | zero => exact h.elim
  | succ m =>
    unfold compL at h
    cases hv : v.at S i with
    | none => rw [hv] at h; exact h.elim
    | some o =>
      rw [hv] at h
      obtain ⟨z1, z2⟩ := p1 ρ H S (g2.trans gg) r i o hv
      have hrD : ρ[S1.length]? = some Dn := gg.at_ _ _ hat
      cases o with
      | none =>
        refine .inl ⟨z1 rfl, Good.ok h r ?_⟩
        show RD X.K CA ρ H (.ref S1.length) (.ref Dn)
        simp only [RD]
        exact ⟨Dn, hrD, rfl⟩
      | some d =>
        dsimp only at h
        obtain ⟨z3, z4⟩ := z2 d rfl
        cases hL : setTg g d (wipeL L vs) with
        | none => rw [hL] at h; exact h.elim
        | some L1 =>
          rw [hL] at h
          dsimp only at h
          refine .inr ⟨z3, _, fun H' z => ⟨m, Nat.lt_succ_self _, z⟩, fun x H' hy => ?_⟩
          obtain ⟨w1, w2, w3⟩ := z4 x H' hy
          refine tgt_ok hL w3 (lw.grow (gg.trans w1)) fun xs l2 => ⟨wipe_stAll hvs, ρ, L1, S, w2, l2, ?_⟩
          have h := Good.grow w1 h
          cases hc : evT T R c L1 S with
          | bad => rw [hc] at h; exact h.elim
          | exc e1 S3 => rw [hc] at h; exact h.elim
          | ok kb S3 =>
            rw [hc] at h
            intro ρ3 kb' H3 g3 r3 p3
            have ek : kb' = kb := p3
            subst ek
            cases kb' with
            | false =>
              simp only [Bool.false_eq_true, if_false]
              exact ⟨ρ3, S3, (gg.trans w1).trans g3, r3, Good.grow g3 h⟩
            | true =>
              simp only [if_true]
              refine ⟨ρ3, L1, S3, r3, l2.grow g3, ?_⟩
              have h := Good.grow g3 h
              dsimp only at h
              cases he : evE T R e L1 S3 with
              | bad => rw [he] at h; exact h.elim
              | exc e1 S4 => rw [he] at h; exact h.elim
              | ok y S4 =>
                rw [he] at h
                intro ρ4 y4 H4 g4 r4 p4
                have h := Good.grow g4 h
                dsimp only at h
                cases hw : wlstAt S4 S1.length with
                | none => rw [hw] at h; exact h.elim
                | some acc =>
                  rw [hw] at h
                  dsimp only at h
                  by_cases hz : acc.length < lim
                  · rw [if_pos hz] at h
                    obtain ⟨a, xs4, ha, hH4, hr4⟩ := r4.wlist hw
                    have hD4 : ρ4[S1.length]? = some Dn := (g3.trans g4).at_ _ _ hrD
                    rw [hD4] at ha
                    cases ha
                    have gw : Grow ρ4 H4 ρ4 (upd H4 Dn (.lst (xs4 ++ [y4]))) := .write hH4 (fun z => z)
                    refine ⟨xs4, hH4, by rw [← lim_eq, ← hr4.length]; exact hz, ρ4, S4.set S1.length (.lst (acc ++ [y])), ((gg.trans w1).trans (g3.trans g4)).trans gw, ?_, Good.grow gw h⟩
                    exact r4.put hD4 hH4 (fun z => z) ⟨_, upd_same, RDs.grow gw _ _ (RDs.append hr4 (.cons p4 .nil))⟩
                  · rw [if_neg hz] at h
                    exact h.elim
theorem se_comp (b : Bd X CA T FA blts k R W) {elt tg iter : Expr} {ifs : List Expr} {scope : Scope} {own : List (Str × Nat)} {pos : Pos} {g : Tg} {it : Itx} {c : Xs} {e : Am.X} (hi : SI X CA T R W tg iter it) (ok : BlkOk X.N X.env.scope scope own)
    (hg : ∀ (s : Shared) (H : Hp) (C : Addr) (cl : List (Str × Addr)) (fp : List Addr), PG (X.blk s H scope (compEnvC scope cl C X.env) fp) tg (gTgt X.K g))
    (ht : ∀ (s : Shared) (H : Hp) (C : Addr) (cl : List (Str × Addr)) (fp : List Addr), PTs (X.blk s H scope (compEnvC scope cl C X.env) fp) ifs (tM X.K CA W0 PB (evT T R c)))
    (he : ∀ (s : Shared) (H : Hp) (C : Addr) (cl : List (Str × Addr)) (fp : List Addr), PE (X.blk s H scope (compEnvC scope cl C X.env) fp) elt (tM X.K CA W0 (PD X.K CA) (evE T R e)))
    (hvs : ∀ i ∈ tgVars g, i ∈ own.map (·.2)) (hs : ∀ x, foldedSetIterable iter X.env x = pure x) :
    SE X CA T R W (.ListComp elt [⟨tg, iter, ifs, 0⟩] scope pos) (.comp e g it c (own.map (·.2))) :=
  peI (pe_lc b.calm b.nd hi ok hg ht he hs) fun σ H Q h => comp_core hvs h
/-- name = [..] on one line -/
theorem ss_setcomp (b : Bd X CA T FA blts k R W) {i : Nat} {y : Str} {py spos : Pos} {elt tg iter : Expr} {ifs : List Expr} {scope : Scope} {own : List (Str × Nat)} {pos : Pos} {g : Tg} {it : Itx} {c : Xs} {e : Am.X} (hy : X.N[i]? = some y) (hyl : X.env.scope.names.lookup y = some .local)
    (hsw : swapsWith (.ListComp elt [⟨tg, iter, ifs, 0⟩] scope pos) (some (.Name y py)) spos.line X.env = pure true) (hi : SI X CA T R W tg iter it) (ok : BlkOk X.N X.env.scope scope own)
    (hg : ∀ (s : Shared) (H : Hp) (C : Addr) (cl : List (Str × Addr)) (fp : List Addr), PG (X.blk s H scope (compEnvC scope cl C X.env) fp) tg (gTgt X.K g))
    (ht : ∀ (s : Shared) (H : Hp) (C : Addr) (cl : List (Str × Addr)) (fp : List Addr), PTs (X.blk s H scope (compEnvC scope cl C X.env) fp) ifs (tM X.K CA W0 PB (evT T R c)))
    (he : ∀ (s : Shared) (H : Hp) (C : Addr) (cl : List (Str × Addr)) (fp : List Addr), PE (X.blk s H scope (compEnvC scope cl C X.env) fp) elt (tM X.K CA W0 (PD X.K CA) (evE T R e)))
    (hvs : ∀ i ∈ tgVars g, i ∈ own.map (·.2)) (hs : ∀ x, foldedSetIterable iter X.env x = pure x) :
    SSt X CA T R fu W (.Assign [.Name y py] (.ListComp elt [⟨tg, iter, ifs, 0⟩] scope pos) spos) (.set i (.comp e g it c (own.map (·.2)))) := by
  refine psI (ps_setLc b.calm b.nd hy hyl hsw hi ok hg ht he hs) fun D σ H ⟨ρ, L, S, r, l, h⟩ => ?_
  simp only [evS] at h
  exact comp_core hvs (stepS r l h fun ρ1 d S1 v H1 g1 r1 l1 p1 h1 => h1 ρ1 _ H1 (.refl _ _) r1 (l1.set p1))
/-! ### dict displays -/
theorem se_dic0 {pos : Pos} : SE X CA T R W (.Dict [] [] pos) .dic0 := by
  refine peI pe_dnewK fun σ H Q ⟨ρ, L, S, r, l, h⟩ => ?_
  simp only [evE] at h
  intro p hp
  refine h (ρ ++ [p]) (.ref p) _ (.alloc hp) (r.alloc hp ⟨[], upd_same, rfl⟩) ?_
  show RD X.K CA _ _ (.ref S.length) (.ref p)
  simp only [RD]
  exact ⟨p, by rw [← r.len]; simp, rfl⟩
theorem keyD_v {K : PySem.W.Frag} {ρ : List Addr} {H : Hp} {d : D} {kk : L2.Key} {v : V} (h : RD K CA ρ H d v) (e : keyD d = some kk) : v = kV kk := by
  cases d with
  | int i => cases e; exact rd_int h
  | str x => cases e; exact rd_str h
  | _ => cases e
theorem se_dic1 {a c : Expr} {x y : Am.X} {pos : Pos} (ha : SE X CA T R W a x) (hb : SE X CA T R W c y) : SE X CA T R W (.Dict [some a] [c] pos) (.dic1 x y) := by
  refine peI (pe_disp (pps_cons ha hb pps_nil) rfl rfl (by simp) (by show 1 ≤ 15; omega)) fun σ H Q ⟨ρ, L, S, r, l, h⟩ => ?_
  simp only [evE] at h
  intro p hp
  have g0 : Grow ρ H (ρ ++ [p]) (upd H p (.dK [])) := .alloc hp
  have r0 : Rep X.K CA (ρ ++ [p]) (upd H p (.dK [])) (S ++ [.dic []]) := r.alloc hp ⟨[], upd_same, rfl⟩
  have hat : (ρ ++ [p])[S.length]? = some p := by rw [← r.len]; simp
  have h0 := Good.grow g0 h
  have key := step1 (m := fun L _ => evE T R x L (S ++ [.dic []])) (S := S ++ [.dic []]) r0 (l.grow g0) h0 (R := fun v1 H1 => ∃ ρ1 d1 S1, Grow (ρ ++ [p]) (upd H p (.dK [])) ρ1 H1 ∧ Rep X.K CA ρ1 H1 S1 ∧ RL X.K CA ρ1 H1 σ L ∧ RD X.K CA ρ1 H1 d1 v1 ∧ Good X.K CA W (PD X.K CA) ((evE T R y L S1).bind fun b S2 => match dicAt S2 S.length, keyD d1 with
    | some [], some _ => .ok (.ref S.length) (S2.set S.length (.dic [(d1, b)]))
    | _, _ => .bad) ρ1 σ H1 Q) (fun ρ1 d1 S1 v1 H1 g1 r1 l1 p1 h1 => ⟨ρ1, d1, S1, g1, r1, l1, p1, h1⟩)
  obtain ⟨ρ', L', S', r', l', hg⟩ := key
  have hgo : Good X.K CA W (PD X.K CA) (evE T R x L (S ++ [.dic []])) (ρ ++ [p]) σ (upd H p (.dK [])) (fun v1 H1 => ∃ ρ1 d1 S1, Grow (ρ ++ [p]) (upd H p (.dK [])) ρ1 H1 ∧ Rep X.K CA ρ1 H1 S1 ∧ RD X.K CA ρ1 H1 d1 v1 ∧ Good X.K CA W (PD X.K CA) ((evE T R y L S1).bind fun b S2 => match dicAt S2 S.length, keyD d1 with
    | some [], some _ => .ok (.ref S.length) (S2.set S.length (.dic [(d1, b)]))
    | _, _ => .bad) ρ1 σ H1 Q) := Good.bind h0
  show tM X.K CA W (PD X.K CA) (evE T R x) σ (upd H p (.dK [])) _
  refine ⟨ρ ++ [p], L, S ++ [.dic []], r0, l.grow g0, hgo.imp fun v1 H1 ⟨ρ1, d1, S1, g1, r1, p1, h1⟩ => ?_⟩
  show tM X.K CA W (PD X.K CA) (evE T R y) σ H1 _
  refine step1 r1 ((l.grow g0).grow g1) h1 fun ρ2 d2 S2 v2 H2 g2 r2 l2 p2 h2 => ?_
  cases hd : dicAt S2 S.length with
  | none => rw [hd] at h2; exact h2.elim
  | some kvs =>
    cases kvs with
    | cons q qs => rw [hd] at h2; exact h2.elim
    | nil =>
      cases hk : keyD d1 with
      | none => rw [hd, hk] at h2; exact h2.elim
      | some kk =>
        rw [hd, hk] at h2
        have hp2 : ρ2[S.length]? = some p := (g1.trans g2).at_ _ _ hat
        have hrd : RD X.K CA ρ2 H2 (.ref S.length) (.ref p) := by simp only [RD]; exact ⟨p, hp2, rfl⟩
        obtain ⟨p', l0, e, hp', hH2, hrk⟩ := r2.dic_v hrd hd
        cases e
        have : l0 = [] := hrk
        subst this
        have gw : Grow ρ2 H2 ρ2 (upd H2 p (.dK [(kk, v2)])) := .write hH2 (fun z => z)
        refine ⟨hH2, [(kk, v2)], ?_, by show 1 ≤ 15; omega, ?_⟩
        · show [(v1, v2)] = [(kV kk, v2)]
          rw [keyD_v p1 hk]
        · refine h2 ρ2 (.ref p) _ gw (r2.put hp2 hH2 (fun z => z) ⟨_, upd_same, ?_⟩) ?_
          · exact ⟨kk, v2, [], rfl, hk, RD.grow gw _ _ p2, rfl⟩
          · show RD X.K CA _ _ (.ref S.length) (.ref p)
            simp only [RD]
            exact ⟨p, hp2, rfl⟩
/-! ### raise -/
def PXc (K : PySem.W.Frag) (CA : Str → Option Addr) : List Addr → Hp → D → Value × Option Addr → Prop := fun ρ H d p => RX K CA ρ H d p.1 p.2
theorem pmk_mk (b : Bd X CA T FA blts k R W) {f : Str} {e : List Str × Shp} {es : List Expr} {kws : List Keyword} {xs ks : Xs} {p pos : Pos} (hmk : mkD T f = some (.inl e)) (hg : Gl X f) (hd : (f == ("__debug__" : Str)) = false) (hs : es.all nostar = true) (hx : es = [] → xs = .nil) (ha : kwAll kws = true) (he : SEs X CA T R W es xs) (hw : SK X CA T R W kws ks) :
    PMk X (.Call (.Name f p) es kws pos) (fun σ H Q => tM X.K CA W (PXc X.K CA) (evE T R (.mk f xs (kwNames kws) ks)) σ H fun q H' => Q q.1 q.2 H') := by
  intro pins s σ H Q I ⟨ρ, L, S, r, l, h⟩
  simp only [evE] at h
  rw [hmk] at h
  unfold mkD at hmk
  split at hmk
  · rename_i c hc
    split at hmk
    · rename_i e' hex
      cases hmk
      obtain ⟨C, hC, hm, hkp, _⟩ := b.g.cls f c hc
      refine wpAny_Call_Name_kw (ld_glob I hg hm ?_ hd)
      refine call_args (first := []) (P' := PXc X.K CA) (g := fun as ws S2 => match e.2.bind as (kwNames kws) ws with
        | some vs => if vs.length = e.1.length then .ok (.exc f e.1 vs) S2 else .bad
        | none => .bad) hkp hs hx ha he hw I r l h fun us ws vs zs ds es' ρ' H' S' s' rv rz pd pz I' r' gg h' => ?_
      split at h'
      · rename_i args hb
        split at h'
        · rename_i hlen
          obtain ⟨ca, hCA, J, hcore⟩ := mkx_core b hc hex I' rv rz hb hlen r' pd pz
          rw [hC] at hCA
          cases hCA
          refine thn hcore fun u s2 hu => mkx_raise (raises_own J.exC J.tyC) hu fun d H2 hq => ?_
          rcases hq with ⟨e1, e2, hd2, rfl⟩ | ⟨dx, xs2, hd2, hdn, hdx, hsame, hxl, hrd⟩
          · exact h' ρ' (.ref C, d) _ (.refl _ _) r' ⟨C, hC, rfl, .inl ⟨e1, hd2⟩⟩
          · have hka : ∀ a' o, H' a' = some o → H2 a' = some o := fun a' o e => by
              rw [hsame a' (fun z => by rw [z, hdn] at e; cases e) (by rw [e]; exact fun z => nomatch z)]
              exact e
            have g2 : Grow ρ' H' ρ' H2 := ⟨fun _ _ h => h, fun a' o _ e => hka a' o e⟩
            exact h' ρ' (.ref C, d) _ g2 (r'.same hka) ⟨C, hC, rfl, .inr ⟨dx, xs2, hd2, hdx, hxl, RDs.grow g2 _ _ hrd⟩⟩
        · exact h'.elim
      · exact h'.elim
    · split at hmk
      · split at hmk
        · cases hmk
        · cases hmk
      · cases hmk
  · cases hmk
theorem ss_raise (b : Bd X CA T FA blts k R W) {f : Str} {e : List Str × Shp} {es : List Expr} {kws : List Keyword} {xs ks : Xs} {p pos pos' : Pos} (hmk : mkD T f = some (.inl e)) (hg : Gl X f) (hd : (f == ("__debug__" : Str)) = false) (hs : es.all nostar = true) (hx : es = [] → xs = .nil) (ha : kwAll kws = true) (he : SEs X CA T R W es xs) (hw : SK X CA T R W kws ks) :
    SSt X CA T R fu W (.Raise (some (.Call (.Name f p) es kws pos)) none pos') (.raise (.mk f xs (kwNames kws) ks)) := by
  refine psI (ps_raise b.calm b.tk (pmk_mk b hmk hg hd hs hx ha he hw)) fun D σ H ⟨ρ, L, S, r, l, h⟩ => ?_
  simp only [evS] at h
  exact stepS (P := PXc X.K CA) r l h fun ρ1 d S1 v H1 g1 r1 l1 p1 h1 => h1 ρ1 σ H1 v.1 v.2 (.refl _ _) r1 l1 p1
end
end Am
set_option maxHeartbeats 1000000
/-! Am14: stores to items, attributes; several targets. -/
namespace Am
open PySem PySem.Spec PyProof.Rows L2
section
variable {X : Cx} {CA : Str → Option Addr} {T : Tab} {FA : Str → Option Addr} {blts : List Str} {k : Nat} {R : Str → List D → Sto → Out D} {W : WX} {fu : Nat}
theorem setix_some {S S' : Sto} {a i d : D} (h : setixD S a i d = some S') : ∃ r m ds j, a = .ref r ∧ i = .int m ∧ wlstAt S r = some ds ∧ ixN ds.length m = some j ∧ S' = S.set r (.lst (ds.set j d)) := by
  unfold setixD at h
  split at h
  · rename_i r m
    split at h
    · rename_i ds hw
      cases hj : ixN ds.length m with
      | none => rw [hj] at h; cases h
      | some j =>
        rw [hj] at h
        cases h
        exact ⟨r, m, ds, j, rfl, rfl, hw, hj, rfl⟩
    · cases h
  · cases h
theorem ss_setix {o i e : Expr} {x y z : Am.X} {p' pos : Pos} (he : SE X CA T R W e z) (ho : SE X CA T R W o x) (hi : SE X CA T R W i y)
    (ha : ∀ v, assign (.Subscript o i p') X.env v = (do
      let ov ← holding [v] (eval o X.env)
      let iv ← holding [v, ov] (eval i X.env)
      standAt p'
      holding [v, ov, iv] (setItem ov iv v)
      release [v, ov, iv] [])) (hs : swapsWithSole [.Subscript o i p'] e pos.line X.env = pure false) :
    SSt X CA T R fu W (.Assign [.Subscript o i p'] e pos) (.setix x y z) := by
  refine psI (ps_asg he (pg_sub ho hi set_list ha) hs (by rfl) (by rfl)) fun D σ H ⟨ρ, L, S, r, l, h⟩ => ?_
  simp only [evS] at h
  refine stepS r l h fun ρ1 d S1 v H1 g1 r1 l1 p1 h1 => ?_
  refine stepS r1 l1 h1 fun ρ2 a S2 v2 H2 g2 r2 l2 p2 h2 => ?_
  refine stepS r2 l2 h2 fun ρ3 m S3 v3 H3 g3 r3 l3 p3 h3 => ?_
  split at h3
  · rename_i S4 hq
    obtain ⟨rr, kk, ds, j, rfl, rfl, hw, hj, rfl⟩ := setix_some hq
    cases rd_int p3
    obtain ⟨q, xs, rfl, hρ, hH, hd⟩ := r3.wlist_v (RD.grow g3 _ _ p2) hw
    have gw : Grow ρ3 H3 ρ3 (upd H3 q (.lst (xs.set j v))) := .write hH (fun z => z)
    refine ⟨q, xs, kk, j, rfl, rfl, hH, by rw [← hd.length]; exact hj, h3 ρ3 σ _ gw (r3.put hρ hH (fun z => z) ⟨_, upd_same, RDs.grow gw _ _ (RDs.set (RD.grow (g2.trans g3) _ _ p1) j hd)⟩) (l3.grow gw)⟩
  · exact h3.elim
theorem setat_some {S S' : Sto} {a d : D} {f : Str} (h : setatD T S a f d = some S') : ∃ i C fs c, a = .ref i ∧ S[i]? = some (.ins C fs) ∧ insC T C = some c ∧ c.flds.contains f = true ∧ fs.length < 900 ∧ S' = S.set i (.ins C (putD f d fs)) := by
  unfold setatD at h
  split at h
  · rename_i i
    split at h
    · rename_i C fs hS
      split at h
      · rename_i hz
        cases h
        obtain ⟨h1, h2⟩ := hz
        unfold fldOk at h2
        cases hc : insC T C with
        | none => rw [hc] at h2; cases h2
        | some c => rw [hc] at h2; exact ⟨i, C, fs, c, rfl, hS, hc, h2, h1, rfl⟩
      · cases h
    · cases h
  · cases h
theorem ss_setat (b : Bd X CA T FA blts k R W) {o e : Expr} {f : Str} {x z : Am.X} {p' pos : Pos} (he : SE X CA T R W e z) (ho : SE X CA T R W o x) (hs : swapsWith e (some (.Attribute o f p')) pos.line X.env = pure false) : SSt X CA T R fu W (.Assign [.Attribute o f p'] e pos) (.setat x f z) := by
  refine psI (ps_fld ho he hs) fun D σ H ⟨ρ, L, S, r, l, h⟩ => ?_
  simp only [evS] at h
  refine stepS r l h fun ρ1 d S1 v H1 g1 r1 l1 p1 h1 => ?_
  refine stepS r1 l1 h1 fun ρ2 a S2 v2 H2 g2 r2 l2 p2 h2 => ?_
  split at h2
  · rename_i S3 hq
    obtain ⟨i, C, fs, c, rfl, hS, hc, hz, hl, rfl⟩ := setat_some hq
    obtain ⟨q, ca, dx, fl, rfl, hρ, hCA, ea, hrf⟩ := r2.ins_v p2 hS
    obtain ⟨hc1, hc2⟩ := insC_some hc
    obtain ⟨ca', hCA', _, _, _, hno, hins, _⟩ := b.g.cls C c hc1
    rw [hCA] at hCA'
    cases hCA'
    have gw : Grow ρ2 H2 ρ2 (upd H2 q (.ins ca dx (putF f v fl))) := .write ea (fun z => z)
    refine ⟨q, ca, dx, fl, rfl, ea, (hins hc2).cls, hno f hz, by rw [← hrf.length]; omega, h2 ρ2 σ _ gw (r2.put hρ ea (fun z => z) ⟨ca, dx, _, hCA, upd_same, RF.grow gw _ _ (RF.put (RD.grow g2 _ _ p1) hrf)⟩) (l2.grow gw)⟩
  · exact h2.elim
theorem ss_unpack {tg e : Expr} {g : Tg} {z : Am.X} {pos : Pos} (he : SE X CA T R W e z) (hg : PG X tg (gTgt X.K g)) (hs : swapsWithSole [tg] e pos.line X.env = pure false) (hw : swappedStores [tg] e X.env = pure none) (h1 : (assignEach [tg] X.env).map (·.2) = [assign tg X.env]) :
    SSt X CA T R fu W (.Assign [tg] e pos) (.unpack g z) := by
  refine psI (ps_asg he hg hs hw h1) fun D σ H ⟨ρ, L, S, r, l, h⟩ => ?_
  simp only [evS] at h
  refine stepS r l h fun ρ1 d S1 v H1 g1 r1 l1 p1 h1 => ?_
  cases hL : setTg g d L with
  | none => rw [hL] at h1; exact h1.elim
  | some L1 =>
    rw [hL] at h1
    exact tgt_ok hL p1 l1 fun vs l2 => h1 ρ1 _ H1 (.refl _ _) r1 l2
end
end Am
set_option maxHeartbeats 2000000
/-! Am15: the translator of expressions, and that it is right. -/
namespace Am
open PySem PySem.Spec PyProof.Rows L2
/-- where a text stands: the names with slots, the scope, what may be stored -/
structure TC where
  N : List Str
  sc : Scope
  fn : Str → Bool
structure CxOk (X : Cx) (c : TC) : Prop where
  N : X.N = c.N
  sc : X.env.scope = c.sc
  fn : ∀ y, c.fn y = true → X.fn y = true
def ixOf : List Str → Str → Option Nat
  | [], _ => none
  | y :: r, x => if y = x then some 0 else (ixOf r x).map (· + 1)
theorem ixOf_ok {x : Str} : ∀ {l : List Str} {i : Nat}, ixOf l x = some i → l[i]? = some x
  | y :: r, i, h => by
    unfold ixOf at h
    by_cases e : y = x
    · rw [if_pos e] at h
      cases h
      subst e
      rfl
    · rw [if_neg e] at h
      obtain ⟨j, hj, rfl⟩ := Option.map_eq_some_iff.mp h
      simpa using ixOf_ok hj
def nodeb (x : Str) : Bool := !(x == ("__debug__" : Str)) && !(x == ("__classdict__" : Str))
theorem nodeb_ok {x : Str} (h : nodeb x = true) : (x == ("__debug__" : Str)) = false ∧ (x == ("__classdict__" : Str)) = false := by
  unfold nodeb at h
  rw [Bool.and_eq_true, Bool.not_eq_true', Bool.not_eq_true'] at h
  exact h
def visB (sc : Scope) (x : Str) : Bool := sc.names.lookup x == some .local || (sc.names.lookup x == some .cell || sc.names.lookup x == some .free)
theorem visB_ok {sc : Scope} {x : Str} (h : visB sc x = true) : Vis sc x := by
  unfold visB at h
  rw [Bool.or_eq_true, Bool.or_eq_true] at h
  rcases h with h | h | h
  · exact .inl (beq_iff_eq.mp h)
  · exact .inr (.inl (beq_iff_eq.mp h))
  · exact .inr (.inr (beq_iff_eq.mp h))
def glB (sc : Scope) (x : Str) : Bool := sc.names.lookup x == some .globalImplicit
theorem glB_ok {X : Cx} {c : TC} (k : CxOk X c) {x : Str} (h : glB c.sc x = true) : Gl X x := by
  show X.env.scope.names.lookup x = _
  rw [k.sc]
  exact beq_iff_eq.mp h
def stB (c : TC) (x : Str) : Option Nat := if (c.sc.names.lookup x == some .local || (c.sc.names.lookup x == some .cell && c.fn x)) = true then ixOf c.N x else none
theorem stB_ok {X : Cx} {c : TC} (k : CxOk X c) {x : Str} {i : Nat} (h : stB c x = some i) : StOk X i x := by
  unfold stB at h
  split at h
  · rename_i hz
    refine ⟨by rw [k.N]; exact ixOf_ok h, ?_, ?_⟩
    · rw [k.sc]
      rw [Bool.or_eq_true, Bool.and_eq_true] at hz
      rcases hz with h | h
      · exact .inl (beq_iff_eq.mp h)
      · exact .inr (beq_iff_eq.mp h.1)
    · rw [Bool.or_eq_true, Bool.and_eq_true] at hz
      rcases hz with h | h
      · exact .inr (by rw [k.sc]; exact beq_iff_eq.mp h)
      · exact .inl (k.fn x h.2)
  · cases h
def omap {α β : Type} (f : α → Option β) : List α → Option (List β)
  | [] => some []
  | a :: r => match f a, omap f r with
    | some b, some l => some (b :: l)
    | _, _ => none
theorem omap_cons {α β : Type} {f : α → Option β} {a : α} {r : List α} {l : List β} (h : omap f (a :: r) = some l) : ∃ b l', f a = some b ∧ omap f r = some l' ∧ l = b :: l' := by
  unfold omap at h
  split at h
  · rename_i b l' h1 h2
    cases h
    exact ⟨b, l', h1, h2, rfl⟩
  · cases h
def toXs : List Am.X → Xs
  | [] => .nil
  | x :: r => .cons x (toXs r)
def bopT : Operator → Option Bop
  | .Add => some .add | .Sub => some .sub | .Mult => some .mul | .FloorDiv => some .fdiv | .Mod => some .mod | .Pow => some .pow
  | _ => none
theorem bopT_ok {o : Operator} {b : Bop} (h : bopT o = some b) : o = bopOf b := by
  cases o <;> first | (cases h; rfl) | cases h
def copT : CmpOp → Option Cop
  | .Eq => some .eq | .NotEq => some .ne | .Lt => some .lt | .LtE => some .le | .Gt => some .gt | .GtE => some .ge | .Is => some .is_ | .IsNot => some .isnot | .In => some .in_ | .NotIn => some .notin
theorem copT_ok {o : CmpOp} {b : Cop} (h : copT o = some b) : o = copOf b := by
  cases o <;> (cases h; rfl)
def bop2 (o : BoolOp) (x y : Am.X) : Am.X :=
  match o with
  | .And => .and x y
  | .Or => .or x y
def bopsX (o : BoolOp) : List Am.X → Option Am.X
  | [] => none
  | [x] => some x
  | x :: r => (bopsX o r).map (bop2 o x)
def bltT (f : Str) (n : Nat) : Option Blt :=
  if f = "len" then some .len else if f = "abs" then some .abs else if f = "int" then some .int_ else if f = "repr" then some .repr else if f = "list" then some .list else if f = "tuple" then some .tuple
  else if f = "sum" then some .sum else if f = "all" then some .all else if f = "any" then some .any else if f = "str" then some .str_
  else if f = "max" then (if n = 2 then some .max2 else some .max1) else if f = "min" then (if n = 2 then some .min2 else some .min1) else none
theorem bltT_ok {f : Str} {n : Nat} {b : Blt} (h : bltT f n = some b) : ∃ v m, BltName b f v m := by
  unfold bltT at h
  by_cases e : f = "len"
  · rw [if_pos e] at h
    cases Option.some.inj h
    rw [e]
    exact ⟨_, _, .len⟩
  rw [if_neg e] at h
  clear e
  by_cases e : f = "abs"
  · rw [if_pos e] at h
    cases Option.some.inj h
    rw [e]
    exact ⟨_, _, .abs⟩
  rw [if_neg e] at h
  clear e
  by_cases e : f = "int"
  · rw [if_pos e] at h
    cases Option.some.inj h
    rw [e]
    exact ⟨_, _, .int_⟩
  rw [if_neg e] at h
  clear e
  by_cases e : f = "repr"
  · rw [if_pos e] at h
    cases Option.some.inj h
    rw [e]
    exact ⟨_, _, .repr⟩
  rw [if_neg e] at h
  clear e
  by_cases e : f = "list"
  · rw [if_pos e] at h
    cases Option.some.inj h
    rw [e]
    exact ⟨_, _, .list⟩
  rw [if_neg e] at h
  clear e
  by_cases e : f = "tuple"
  · rw [if_pos e] at h
    cases Option.some.inj h
    rw [e]
    exact ⟨_, _, .tuple⟩
  rw [if_neg e] at h
  clear e
  by_cases e : f = "sum"
  · rw [if_pos e] at h
    cases Option.some.inj h
    rw [e]
    exact ⟨_, _, .sum⟩
  rw [if_neg e] at h
  clear e
  by_cases e : f = "all"
  · rw [if_pos e] at h
    cases Option.some.inj h
    rw [e]
    exact ⟨_, _, .all⟩
  rw [if_neg e] at h
  clear e
  by_cases e : f = "any"
  · rw [if_pos e] at h
    cases Option.some.inj h
    rw [e]
    exact ⟨_, _, .any⟩
  rw [if_neg e] at h
  clear e
  by_cases e : f = "str"
  · rw [if_pos e] at h
    cases Option.some.inj h
    rw [e]
    exact ⟨_, _, .str_⟩
  rw [if_neg e] at h
  clear e
  by_cases e : f = "max"
  · rw [if_pos e] at h
    rw [e]
    by_cases e2 : n = 2
    · rw [if_pos e2] at h
      cases Option.some.inj h
      exact ⟨_, _, .max2⟩
    · rw [if_neg e2] at h
      cases Option.some.inj h
      exact ⟨_, _, .max1⟩
  rw [if_neg e] at h
  clear e
  by_cases e : f = "min"
  · rw [if_pos e] at h
    rw [e]
    by_cases e2 : n = 2
    · rw [if_pos e2] at h
      cases Option.some.inj h
      exact ⟨_, _, .min2⟩
    · rw [if_neg e2] at h
      cases Option.some.inj h
      exact ⟨_, _, .min1⟩
  rw [if_neg e] at h
  clear e
  cases h
def plainB : Expr → Bool
  | .Call (.Name _ _) [] [] _ => false
  | _ => true
theorem plainB_ok {o : Expr} {f : Str} {env : Env} (h : plainB o = true) : attributeBase o f env (eval o env) = eval o env := by
  unfold plainB at h
  split at h
  · cases h
  · rename_i hn
    unfold attributeBase
    split
    · exact absurd rfl (hn _ _ _)
    · rfl
def nosetB : Expr → Bool
  | .Set _ _ _ => false
  | _ => true
theorem nosetB_ok {e : Expr} {env : Env} (h : nosetB e = true) (x : Value) : foldedSetIterable e env x = pure x := by
  cases e <;> first | rfl | cases h
theorem nosetB_mark {o : CmpOp} {e : Expr} (h : nosetB e = true) : behindInMarks o e = false := by
  cases e <;> first | rfl | cases h
def noSlB : Expr → Bool
  | .Slice _ _ _ _ => false
  | _ => true
theorem noSlB_ok {b : Expr} (h : noSlB b = true) : PlainIx b := fun o i => by
  cases b <;> first | rfl | cases h
theorem stars_all {env : Env} {pos : Pos} : ∀ {es : List Expr}, es.all nostar = true → (backTo pos (starEach es env)).all (!·.1) = true
  | [], _ => rfl
  | e :: es, h => by
    rw [List.all_cons, Bool.and_eq_true] at h
    rw [star1 h.1]
    show ((!false) && (backTo pos (starEach es env)).all (!·.1)) = true
    rw [stars_all h.2]
    rfl
theorem kw_isEmpty {env : Env} {pos : Pos} {kws : List Keyword} : (backToKw pos (keywordEach kws env)).isEmpty = kws.isEmpty := by
  cases kws with
  | nil => rfl
  | cons q r => cases q with
    | mk nm e p => cases nm <;> rfl
/-- a method's call, its form -/
def mformB (es : List Expr) (kws : List Keyword) (apos pos : Pos) : Bool := decide (es.length + kws.length + (if kws.isEmpty = true then 0 else 1) < 30) && (apos.endLine == pos.line)
theorem meth_ht {env : Env} {o : Expr} {m : Str} {apos pos : Pos} {es : List Expr} {kws : List Keyword} (hp : plainB o = true) (hs : es.all nostar = true) (hk : kwAll kws = true) (hf : mformB es kws apos pos = true) :
    eval (.Call (.Attribute o m apos) es kws pos) env = (do
      let ov ← eval o env
      standAt apos.atName
      let (f, first) ← holding [ov] (getMethod ov m (do return (← importBound o env).getD true))
      callWith pos f first (backTo pos (starEach es env)) (backToKw pos (keywordEach kws env))) := by
  unfold mformB at hf
  rw [Bool.and_eq_true] at hf
  have hform : methodCallForm (es.length + kws.length) (backTo pos (starEach es env)) (backToKw pos (keywordEach kws env)) = true := by
    unfold methodCallForm
    rw [stars_all hs, kw_all hk, kw_isEmpty]
    simpa using of_decide_eq_true hf.1
  have hpos : methodCallPos true o env apos pos = pure pos := by
    unfold methodCallPos
    rw [if_pos (by rw [hf.2]; rfl)]
  rw [arm_eval_Call, plainB_ok hp]
  congr 1
  funext ov
  congr 1
  funext _
  unfold methodCall
  rw [hform, hpos]
  congr 1
/-- a comprehension's own names -/
def ownOf (N : List Str) (sc : Scope) : List (Str × Nat) := sc.names.filterMap fun p => if (p.2 == .local || p.2 == .cell) = true then (ixOf N p.1).map fun i => (p.1, i) else none
def blkB (N : List Str) (sc scope : Scope) : Bool := decide (scope.kind = .function) && (scope.names.all fun y => decide (scope.names.lookup y.1 = some y.2) && ((!(y.2 == .free) || (sc.names.lookup y.1 == some .cell || sc.names.lookup y.1 == some .free)) &&
  (!(y.2 == .local || y.2 == .cell) || (((ownOf N scope).map (·.1)).contains y.1 || !(N.contains y.1)))))
theorem ownOf_ix {N : List Str} {scope : Scope} : ∀ p ∈ ownOf N scope, N[p.2]? = some p.1 := fun p hp => by
  unfold ownOf at hp
  obtain ⟨q, hq, e⟩ := List.mem_filterMap.mp hp
  split at e
  · obtain ⟨i, hi, rfl⟩ := Option.map_eq_some_iff.mp e
    exact ixOf_ok hi
  · cases e
theorem blkB_ok {N : List Str} {sc scope : Scope} (h : blkB N sc scope = true) : BlkOk N sc scope (ownOf N scope) := by
  unfold blkB at h
  rw [Bool.and_eq_true] at h
  obtain ⟨h1, h2⟩ := h
  rw [List.all_eq_true] at h2
  refine ⟨of_decide_eq_true h1, fun y hy => ?_, ownOf_ix, fun y hy hf => ?_, fun y hy hl => ?_⟩
  · have := h2 y hy
    rw [Bool.and_eq_true] at this
    exact of_decide_eq_true this.1
  · have := h2 y hy
    simp only [Bool.and_eq_true, Bool.or_eq_true, Bool.not_eq_true', beq_iff_eq] at this
    rcases this.2.1 with z | z | z
    · rw [hf] at z; simp at z
    · exact .inl z
    · exact .inr z
  · have := h2 y hy
    simp only [Bool.and_eq_true, Bool.or_eq_true, Bool.not_eq_true'] at this
    rcases this.2.2 with z | z | z
    · rcases hl with hl | hl <;> (rw [hl] at z; simp at z)
    · exact .inl (by simpa using z)
    · exact .inr (by simpa using z)
def tgB (c : TC) : Expr → Option Tg
  | .Name y _ => (stB c y).map .one
  | .Tuple [.Name y _, .Name z _] _ _ => match stB c y, stB c z with
    | some i, some j => some (.two i j)
    | _, _ => none
  | .Tuple [.Name y _, .Name z _, .Name u _] _ _ => match stB c y, stB c z, stB c u with
    | some i, some j, some m => some (.three i j m)
    | _, _, _ => none
  | _ => none
theorem tgB_ok {X : Cx} {c : TC} (k : CxOk X c) (hc : X.calm = true) (nd : X.N.Nodup) {tg : Expr} {g : Tg} (h : tgB c tg = some g) : PG X tg (gTgt X.K g) := by
  unfold tgB at h
  split at h
  · obtain ⟨i, hi, rfl⟩ := Option.map_eq_some_iff.mp h
    exact sg_one nd (stB_ok k hi)
  · split at h
    · rename_i h1 h2
      cases h
      exact sg_two hc nd (stB_ok k h1) (stB_ok k h2)
    · cases h
  · split at h
    · rename_i h1 h2 h3
      cases h
      exact sg_three hc nd (stB_ok k h1) (stB_ok k h2) (stB_ok k h3)
    · cases h
  · cases h
def inner (c : TC) (scope : Scope) : TC := ⟨c.N, relS scope c.sc, fun x => scope.names.lookup x == some .cell⟩
def isTup : Expr → Bool
  | .Tuple _ _ _ => true
  | _ => false
section
variable (T : Tab) (blts : List Str)
def trI (f : Expr → Option Am.X) (c : TC) (tg it : Expr) : Option Itx :=
  match it with
  | .Call (.Name g _) [a] [] _ => if g = "range" then (if (glB c.sc g && (blts.contains g && nostar a)) = true then (f a).map Itx.rng1 else none) else
    if g = "enumerate" then (if (glB c.sc g && (blts.contains g && (nostar a && isTup tg))) = true then (f a).map Itx.enl else none) else (f it).map Itx.seq
  | .Call (.Name g _) [a, a'] [] _ => if g = "range" then (if (glB c.sc g && (blts.contains g && (nostar a && nostar a'))) = true then (match f a, f a' with
      | some x, some y => some (Itx.rng2 x y)
      | _, _ => none) else none) else
    if g = "zip" then (if (glB c.sc g && (blts.contains g && (nostar a && (nostar a' && isTup tg)))) = true then (match f a, f a' with
      | some x, some y => some (Itx.zip x y)
      | _, _ => none) else none) else (f it).map Itx.seq
  | it => (f it).map Itx.seq
/-- the translator: b: as a test -/
def tr : Nat → TC → Bool → Expr → Option Am.X
  | 0, _, _, _ => none
  | n + 1, c, b, e => match e with
    | .Name x _ => if (visB c.sc x && nodeb x) = true then (ixOf c.N x).map .var else if (glB c.sc x && (nodeb x && (T.con.lookup x).isSome)) = true then some (.glob x) else none
    | .Constant .none _ _ => some (.con .non)
    | .Constant (.bool v) _ _ => some (.con (.bl v))
    | .Constant (.int v) _ _ => some (.con (.int v))
    | .Constant (.str v) _ _ => some (.con (.str v))
    | .BinOp l o r _ => match bopT o, tr n c false l, tr n c false r with
      | some o, some x, some y => some (.bin o x y)
      | _, _, _ => none
    | .UnaryOp .USub a _ => (tr n c false a).map .neg
    | .UnaryOp .Not a _ => (tr n c b a).map .not
    | .BoolOp o es _ => (omap (tr n c b) es).bind (bopsX o)
    | .Compare l [o] [r] _ => if nosetB r = true then (match copT o, tr n c false l, tr n c false r with
      | some o, some x, some y => some (.cmp o x y)
      | _, _, _ => none) else none
    | .Compare l [o, o'] [r, u] _ => if nosetB u = true then (match copT o, copT o', tr n c false l, tr n c false r, tr n c false u with
      | some o, some o', some x, some y, some z => some (.chain o o' x y z)
      | _, _, _, _, _ => none) else none
    | .IfExp t a u _ => if b = true then none else match tr n c true t, tr n c false a, tr n c false u with
      | some x, some y, some z => some (.ite x y z)
      | _, _, _ => none
    | .Tuple es _ _ => if es.all nostar = true then (omap (tr n c false) es).map fun l => .tup (toXs l) else none
    | .List es _ => if es.all nostar = true then (omap (tr n c false) es).map fun l => .lst (toXs l) else none
    | .Dict [] [] _ => some .dic0
    | .Dict [some k] [v] _ => match tr n c false k, tr n c false v with
      | some x, some y => some (.dic1 x y)
      | _, _ => none
    | .Subscript a (.Slice lo hi none _) _ => match tr n c false a, (match lo with
      | none => some Ox.no
      | some e => (tr n c false e).map Ox.so), (match hi with
      | none => some Ox.no
      | some e => (tr n c false e).map Ox.so) with
      | some x, some l, some h => some (.sl x l h)
      | _, _, _ => none
    | .Subscript a i _ => if noSlB i = true then (match tr n c false a, tr n c false i with
      | some x, some y => some (.ix x y)
      | _, _ => none) else none
    | .Attribute o f _ => if plainB o = true then (tr n c false o).map fun x => .attr x f else none
    | .Call (.Name f _) es kws _ => if (glB c.sc f && (nodeb f && (es.all nostar && kwAll kws))) = true then
        (if f = "isinstance" then (match es, kws with
          | [o, .Name cn _], [] => if (T.cn.contains cn && (glB c.sc cn && (blts.contains "isinstance" && !T.tn.isEmpty))) = true then (tr n c false o).map fun x => .isi x [cn] else none
          | _, _ => none)
        else match omap (tr n c false) es, omap (fun q : Keyword => tr n c false q.value) kws with
          | some xs, some ks => (match bltT f es.length with
            | some bl => if (blts.contains f && (kws.isEmpty && !es.isEmpty)) = true then some (.blt bl (toXs xs)) else none
            | none => match mkD T f with
              | some _ => some (.mk f (toXs xs) (kwNames kws) (toXs ks))
              | none => if (!f.cps.contains 46) = true then some (.call f (toXs xs) (kwNames kws) (toXs ks)) else none)
          | _, _ => none) else none
    | .Call (.Attribute o m apos) es kws pos => if (es.all nostar && (kwAll kws && (plainB o && mformB es kws apos pos))) = true then (match tr n c false o, omap (tr n c false) es, omap (fun q : Keyword => tr n c false q.value) kws with
      | some y, some xs, some ks => some (.meth y m (toXs xs) (kwNames kws) (toXs ks))
      | _, _, _ => none) else none
    | .ListComp elt [⟨tg, it, ifs, 0⟩] scope _ => if (blkB c.N c.sc scope && nosetB it) = true then (match tgB (inner c scope) tg, tr n (inner c scope) false elt, (match ifs with
        | [] => some Xs.nil
        | [e] => (tr n (inner c scope) true e).map fun x => .cons x .nil
        | _ => none), trI blts (tr n c false) c tg it with
      | some g, some e, some cs, some i => if (tgVars g).all (fun v => ((ownOf c.N scope).map (·.2)).contains v) = true then some (.comp e g i cs ((ownOf c.N scope).map (·.2))) else none
      | _, _, _, _ => none) else none
    | _ => none
end
end Am
set_option maxHeartbeats 4000000
/-! Am16: the translator of expressions is right. -/
namespace Am
open PySem PySem.Spec PyProof.Rows L2
section
variable {CA : Str → Option Addr} {T : Tab} {FA : Str → Option Addr} {blts : List Str}
section
variable {X : Cx} {R : Str → List D → Sto → Out D} {W : WX}
theorem omap_ses {f : Expr → Option Am.X} (hf : ∀ e x, f e = some x → SE X CA T R W e x) : ∀ {es : List Expr} {xs : List Am.X}, omap f es = some xs → es.all nostar = true → SEs X CA T R W es (toXs xs)
  | [], xs, h, _ => by cases h; exact ses_nil
  | e :: es, xs, h, hs => by
    obtain ⟨b, l', h1, h2, rfl⟩ := omap_cons h
    rw [List.all_cons, Bool.and_eq_true] at hs
    exact ses_cons hs.1 (hf e b h1) (omap_ses hf h2 hs.2)
theorem omap_sk {f : Expr → Option Am.X} (hf : ∀ e x, f e = some x → SE X CA T R W e x) : ∀ {es : List Keyword} {xs : List Am.X}, omap (fun q : Keyword => f q.value) es = some xs → SK X CA T R W es (toXs xs)
  | [], xs, h => by cases h; exact sk_nil
  | ⟨nm, e, p⟩ :: es, xs, h => by
    obtain ⟨b, l', h1, h2, rfl⟩ := omap_cons h
    exact sk_cons (hf e b h1) (omap_sk hf h2)
theorem omap_nil {α β : Type} {f : α → Option β} {es : List α} {xs : List β} (h : omap f es = some xs) (e : es = []) : xs = [] := by
  subst e
  cases h
  rfl
theorem bops_se {f : Expr → Option Am.X} (hf : ∀ e x, f e = some x → SE X CA T R W e x) {op : BoolOp} {p : Pos} : ∀ {es : List Expr} {xs : List Am.X} {y : Am.X}, omap f es = some xs → bopsX op xs = some y → SE X CA T R W (.BoolOp op es p) y
  | [], xs, y, h, hb => by cases h; cases hb
  | [e], xs, y, h, hb => by
    obtain ⟨b, l', h1, h2, rfl⟩ := omap_cons h
    cases h2
    cases hb
    exact se_one (hf e _ h1)
  | e :: e2 :: es, xs, y, h, hb => by
    obtain ⟨b, l', h1, h2, rfl⟩ := omap_cons h
    obtain ⟨b2, l2, h3, h4, rfl⟩ := omap_cons h2
    obtain ⟨z, hz, rfl⟩ := Option.map_eq_some_iff.mp (show (bopsX op (b2 :: l2)).map (bop2 op b) = some y from hb)
    have ih := bops_se (p := p) hf (es := e2 :: es) h2 hz
    cases op with
    | And => exact se_and (hf e b h1) ih
    | Or => exact se_or (hf e b h1) ih
theorem bops_sw {f : Expr → Option Am.X} (hf : ∀ e x, f e = some x → ST X CA T R W e x) {op : BoolOp} {p : Pos} : ∀ {es : List Expr} {xs : List Am.X} {y : Am.X}, omap f es = some xs → bopsX op xs = some y → STW X CA T R W (.BoolOp op es p) y
  | [], xs, y, h, hb => by cases h; cases hb
  | [e], xs, y, h, hb => by
    obtain ⟨b, l', h1, h2, rfl⟩ := omap_cons h
    cases h2
    cases hb
    cases op with
    | And => exact sw_and1 (hf e _ h1)
    | Or => exact sw_or1 (hf e _ h1)
  | e :: e2 :: es, xs, y, h, hb => by
    obtain ⟨b, l', h1, h2, rfl⟩ := omap_cons h
    obtain ⟨b2, l2, h3, h4, rfl⟩ := omap_cons h2
    obtain ⟨z, hz, rfl⟩ := Option.map_eq_some_iff.mp (show (bopsX op (b2 :: l2)).map (bop2 op b) = some y from hb)
    have ih := bops_sw (p := p) hf (es := e2 :: es) h2 hz
    cases op with
    | And => exact sw_and (hf e b h1) ih
    | Or => exact sw_or (hf e b h1) ih
end
/-- a block's context -/
theorem cx_blk {X : Cx} {c : TC} (k : CxOk X c) {s : Shared} {H : Hp} {scope : Scope} {cl : List (Str × Addr)} {C : Addr} {fp : List Addr} : CxOk (X.blk s H scope (compEnvC scope cl C X.env) fp) (inner c scope) := by
  refine ⟨k.N, ?_, fun y h => h⟩
  show relS scope X.env.scope = relS scope c.sc
  rw [k.sc]
theorem bd_blk {X : Cx} {k : Nat} {R : Str → List D → Sto → Out D} {W : WX} (b : Bd X CA T FA blts k R W) {s : Shared} {H : Hp} {scope : Scope} {cenv : Env} {fp : List Addr} : Bd (X.blk s H scope cenv fp) CA T FA blts k R W0 where
  calm := b.calm
  nd := b.nd
  tk := fun u s' ⟨_, _, _, _, _, _, _, _, _, _, _, _, _, _, _, _, h⟩ => h
  rm := b.rm
  g := b.g
theorem trI_ok {X : Cx} {c : TC} {k : Nat} {R : Str → List D → Sto → Out D} {W : WX} {f : Expr → Option Am.X} (hk : CxOk X c) (b : Bd X CA T FA blts k R W) (hf : ∀ e x, f e = some x → SE X CA T R W e x) {tg it : Expr} {i : Itx} (h : trI blts f c tg it = some i) : SI X CA T R W tg it i := by
  unfold trI at h
  split at h
  · rename_i g p a p2
    split at h
    · rename_i e
      split at h
      · rename_i hz
        simp only [Bool.and_eq_true] at hz
        obtain ⟨x, hx, rfl⟩ := Option.map_eq_some_iff.mp h
        subst e
        exact si_rng1 b (glB_ok hk hz.1) (by simpa using hz.2.1) hz.2.2 (hf _ _ hx)
      · cases h
    · split at h
      · rename_i e
        split at h
        · rename_i hz
          simp only [Bool.and_eq_true] at hz
          obtain ⟨x, hx, rfl⟩ := Option.map_eq_some_iff.mp h
          subst e
          have ht := hz.2.2.2
          unfold isTup at ht
          split at ht
          · exact si_enm b (glB_ok hk hz.1) (by simpa using hz.2.1) hz.2.2.1 (hf _ _ hx)
          · cases ht
        · cases h
      · obtain ⟨x, hx, rfl⟩ := Option.map_eq_some_iff.mp h
        exact si_seq (hf _ _ hx)
  · rename_i g p a a' p2
    split at h
    · rename_i e
      split at h
      · rename_i hz
        simp only [Bool.and_eq_true] at hz
        split at h
        · rename_i h1 h2
          cases h
          subst e
          exact si_rng2 b (glB_ok hk hz.1) (by simpa using hz.2.1) hz.2.2.1 hz.2.2.2 (hf _ _ h1) (hf _ _ h2)
        · cases h
      · cases h
    · split at h
      · rename_i e
        split at h
        · rename_i hz
          simp only [Bool.and_eq_true] at hz
          split at h
          · rename_i h1 h2
            cases h
            subst e
            have ht := hz.2.2.2.2
            unfold isTup at ht
            split at ht
            · exact si_zip b (glB_ok hk hz.1) (by simpa using hz.2.1) hz.2.2.1 hz.2.2.2.1 (hf _ _ h1) (hf _ _ h2)
            · cases ht
          · cases h
        · cases h
      · obtain ⟨x, hx, rfl⟩ := Option.map_eq_some_iff.mp h
        exact si_seq (hf _ _ hx)
  · obtain ⟨x, hx, rfl⟩ := Option.map_eq_some_iff.mp h
    exact si_seq (hf _ _ hx)
/-- what is shown of a translated expression -/
def TrP (X : Cx) (CA : Str → Option Addr) (T : Tab) (R : Str → List D → Sto → Out D) (W : WX) (b : Bool) (e : Expr) (x : Am.X) : Prop := (b = false → SE X CA T R W e x) ∧ (b = true → ST X CA T R W e x)
theorem trp_of {X : Cx} {R : Str → List D → Sto → Out D} {W : WX} {b : Bool} {e : Expr} {x : Am.X} (h : SE X CA T R W e x) (hp : plainT e = true) : TrP X CA T R W b e x := ⟨fun _ => h, fun _ => st_plain h hp⟩
theorem tr_ok : ∀ (n : Nat) (c : TC) (b : Bool) (e : Expr) (x : Am.X), tr T blts n c b e = some x → ∀ (X : Cx) (k : Nat) (R : Str → List D → Sto → Out D) (W : WX), CxOk X c → Bd X CA T FA blts k R W → TrP X CA T R W b e x
  | 0, _, _, _, _, h, _, _, _, _, _, _ => by cases h
  | n + 1, c, b, e, x, h, X, k, R, W, hk, bd => by
    have ih : ∀ e x, tr T blts n c false e = some x → SE X CA T R W e x := fun e x h => (tr_ok n c false e x h X k R W hk bd).1 rfl
    have iht : ∀ e x, tr T blts n c true e = some x → ST X CA T R W e x := fun e x h => (tr_ok n c true e x h X k R W hk bd).2 rfl
    unfold tr at h
    split at h
    · -- name
      split at h
      · rename_i hz
        rw [Bool.and_eq_true] at hz
        obtain ⟨i, hi, rfl⟩ := Option.map_eq_some_iff.mp h
        have hd := nodeb_ok hz.2
        exact trp_of (se_var (by rw [hk.N]; exact ixOf_ok hi) (by rw [hk.sc]; exact visB_ok hz.1) hd.1 hd.2) rfl
      · split at h
        · rename_i hz
          simp only [Bool.and_eq_true] at hz
          cases h
          have hd := nodeb_ok hz.2.1
          obtain ⟨d, hd2⟩ := Option.isSome_iff_exists.mp hz.2.2
          exact trp_of (se_glob bd (glB_ok hk hz.1) hd2 hd.1) rfl
        · cases h
    · cases h; exact trp_of se_non rfl
    · cases h; exact trp_of se_bl rfl
    · cases h; exact trp_of se_int rfl
    · cases h; exact trp_of se_str rfl
    · -- binop
      split at h
      · rename_i h1 h2 h3
        cases h
        rw [bopT_ok h1]
        exact trp_of (se_bin (ih _ _ h2) (ih _ _ h3)) rfl
      · cases h
    · obtain ⟨y, hy, rfl⟩ := Option.map_eq_some_iff.mp h
      exact trp_of (se_neg (ih _ _ hy)) rfl
    · obtain ⟨y, hy, rfl⟩ := Option.map_eq_some_iff.mp h
      cases b with
      | false => exact ⟨fun _ => se_not (ih _ _ hy), fun z => nomatch z⟩
      | true => exact ⟨fun z => (nomatch z), fun _ => st_not (iht _ _ hy)⟩
    · obtain ⟨xs, hxs, hy⟩ := Option.bind_eq_some_iff.mp h
      cases b with
      | false => exact ⟨fun _ => bops_se ih hxs hy, fun z => nomatch z⟩
      | true => exact ⟨fun z => (nomatch z), fun _ => st_of_sw (bops_sw iht hxs hy)⟩
    · split at h
      · rename_i hz
        split at h
        · rename_i h1 h2 h3
          cases h
          rw [copT_ok h1]
          exact ⟨fun _ => se_cmp bd (ih _ _ h2) (ih _ _ h3) (nosetB_mark hz), fun _ => st_cmp bd (ih _ _ h2) (ih _ _ h3) (nosetB_mark hz)⟩
        · cases h
      · cases h
    · split at h
      · rename_i hz
        split at h
        · rename_i h1 h2 h3 h4 h5
          cases h
          rw [copT_ok h1, copT_ok h2]
          exact ⟨fun _ => se_chain bd (ih _ _ h3) (ih _ _ h4) (ih _ _ h5) (nosetB_mark hz), fun _ => st_chain bd (ih _ _ h3) (ih _ _ h4) (ih _ _ h5) (nosetB_mark hz)⟩
        · cases h
      · cases h
    · split at h
      · cases h
      · rename_i hb
        split at h
        · rename_i h1 h2 h3
          cases h
          exact ⟨fun _ => se_ite (iht _ _ h1) (ih _ _ h2) (ih _ _ h3), fun z => absurd z hb⟩
        · cases h
    · split at h
      · rename_i hs
        obtain ⟨y, hy, rfl⟩ := Option.map_eq_some_iff.mp h
        exact trp_of (se_tup (omap_ses ih hy hs)) rfl
      · cases h
    · split at h
      · rename_i hs
        obtain ⟨y, hy, rfl⟩ := Option.map_eq_some_iff.mp h
        exact trp_of (se_lst (omap_ses ih hy hs)) rfl
      · cases h
    · cases h; exact trp_of se_dic0 rfl
    · split at h
      · rename_i h1 h2
        cases h
        exact trp_of (se_dic1 (ih _ _ h1) (ih _ _ h2)) rfl
      · cases h
    · -- slice
      split at h
      · rename_i h1 h2 h3
        cases h
        have ox : ∀ {lo : Option Expr} {l : Ox}, (match lo with
            | none => some Ox.no
            | some e => (tr T blts n c false e).map Ox.so) = some l → SO X CA T R W lo l := fun {lo l} q => by
          cases lo with
          | none => cases q; exact so_no
          | some e =>
            obtain ⟨y, hy, rfl⟩ := Option.map_eq_some_iff.mp q
            exact so_so (ih _ _ hy)
        exact trp_of (se_sl (ih _ _ h1) (ox h2) (ox h3)) rfl
      · cases h
    · split at h
      · rename_i hs
        split at h
        · rename_i h1 h2
          cases h
          exact trp_of (se_ix (ih _ _ h1) (ih _ _ h2) (noSlB_ok hs)) rfl
        · cases h
      · cases h
    · split at h
      · rename_i hp
        obtain ⟨y, hy, rfl⟩ := Option.map_eq_some_iff.mp h
        exact trp_of (se_attr bd (ih _ _ hy) (plainB_ok hp)) rfl
      · cases h
    · -- f(..)
      split at h
      · rename_i hz
        simp only [Bool.and_eq_true] at hz
        obtain ⟨z1, z2, z3, z4⟩ := hz
        have hd := nodeb_ok z2
        split at h
        · rename_i ef
          split at h
          · split at h
            · rename_i hz2
              simp only [Bool.and_eq_true, Bool.not_eq_true'] at hz2
              obtain ⟨y, hy, rfl⟩ := Option.map_eq_some_iff.mp h
              rw [List.all_cons, Bool.and_eq_true] at z3
              subst ef
              exact trp_of (se_isi bd (ih _ _ hy) (glB_ok hk z1) (by simpa using hz2.2.2.1) (glB_ok hk hz2.2.1) z3.1 hz2.1 (fun e => by rw [e] at hz2; simp at hz2)) rfl
            · cases h
          · cases h
        · split at h
          · rename_i xs ks hx1 hx2
            have hses := omap_ses ih hx1 z3
            have hsk := omap_sk ih hx2
            have hnil : ∀ {es : List Expr}, omap (tr T blts n c false) es = some xs → es = [] → toXs xs = .nil := fun {es} q e => by rw [omap_nil q e]; rfl
            split at h
            · rename_i bl hbl
              split at h
              · rename_i hz3
                simp only [Bool.and_eq_true, Bool.not_eq_true'] at hz3
                cases h
                obtain ⟨v, m, hbn⟩ := bltT_ok hbl
                have hkw := hz3.2.1
                cases List.isEmpty_iff.mp hkw
                exact trp_of (se_blt bd hbn (by simpa using hz3.1) (glB_ok hk z1) z3 (fun e => by rw [e] at hz3; simp at hz3) hses) rfl
              · cases h
            · split at h
              · rename_i q hmk
                cases h
                cases q with
                | inl e => exact trp_of (se_mkx bd hmk (glB_ok hk z1) hd.1 z3 (hnil hx1) z4 hses hsk) rfl
                | inr e => exact trp_of (se_mk bd hmk (glB_ok hk z1) hd.1 z3 (hnil hx1) z4 hses hsk) rfl
              · split at h
                · rename_i hdot
                  cases h
                  exact trp_of (se_call bd (glB_ok hk z1) hd.1 (by simpa using hdot) z3 (hnil hx1) z4 hses hsk) rfl
                · cases h
          · cases h
      · cases h
    · -- o.m(..)
      split at h
      · rename_i hz
        simp only [Bool.and_eq_true] at hz
        split at h
        · rename_i y xs ks hy hx1 hx2
          cases h
          exact trp_of (se_meth bd (ih _ _ hy) hz.1 (fun e => by rw [omap_nil hx1 e]; rfl) hz.2.1 (omap_ses ih hx1 hz.1) (omap_sk ih hx2) (meth_ht hz.2.2.1 hz.1 hz.2.1 hz.2.2.2)) rfl
        · cases h
      · cases h
    · -- comprehension
      split at h
      · rename_i hz
        rw [Bool.and_eq_true] at hz
        split at h
        · rename_i g e cs i h1 h2 h3 h4
          split at h
          · rename_i hv
            cases h
            have hin : ∀ (s : Shared) (H : Hp) (C : Addr) (cl : List (Str × Addr)) (fp : List Addr), _ := fun s H C cl fp => tr_ok n (inner c _) false _ e h2 (X.blk s H _ (compEnvC _ cl C X.env) fp) k R W0 (cx_blk hk) (bd_blk bd)
            refine trp_of (se_comp bd (trI_ok hk bd ih h4) (by rw [hk.N, hk.sc]; exact blkB_ok hz.1) (fun s H C cl fp => tgB_ok (cx_blk hk) bd.calm bd.nd h1) (fun s H C cl fp => ?_) (fun s H C cl fp => (hin s H C cl fp).1 rfl) (fun i hi => ?_) (nosetB_ok hz.2)) rfl
            · split at h3
              · cases h3; exact sts_nil
              · obtain ⟨y, hy, rfl⟩ := Option.map_eq_some_iff.mp h3
                exact sts_one ((tr_ok n (inner c _) true _ y hy (X.blk s H _ (compEnvC _ cl C X.env) fp) k R W0 (cx_blk hk) (bd_blk bd)).2 rfl)
              · cases h3
            · have := List.all_eq_true.mp hv i hi
              simpa using this
          · cases h
        · cases h
      · cases h
    · cases h
end
end Am
set_option maxHeartbeats 4000000
/-! Am17: the translator of statements, and that it is right. -/
namespace Am
open PySem PySem.Spec PyProof.Rows L2
def toSs : List Am.S → Ss
  | [] => .nil
  | x :: r => .cons x (toSs r)
section
variable (T : Tab) (blts : List Str)
def trS : Nat → TC → Stmt → Option Am.S
  | 0, _, _ => none
  | n + 1, c, st => match st with
    | .Pass _ => some .pass
    | .Break _ => some .brk
    | .Continue _ => some .cont
    | .Expr (.Constant (.str _) _ _) _ => some .pass
    | .Expr e _ => if nocomp e = true then (tr T blts n c false e).map .exp else none
    | .Return none _ => some .retN
    | .Return (some e) _ => (tr T blts n c false e).map .ret
    | .Assign [.Name y _] e _ => if nocomp e = true then (match stB c y, tr T blts n c false e with
      | some i, some x => some (.set i x)
      | _, _ => none) else none
    | .Assign [.Attribute o f _] e _ => if nocomp e = true then (match tr T blts n c false o, tr T blts n c false e with
      | some y, some x => some (.setat y f x)
      | _, _ => none) else none
    | .Assign [.Subscript o i _] e _ => if (nocomp e && noSlB i) = true then (match tr T blts n c false o, tr T blts n c false i, tr T blts n c false e with
      | some y, some z, some x => some (.setix y z x)
      | _, _, _ => none) else none
    | .Assign [.Tuple ts j q] e _ => if (nocomp e && !isTup e) = true then (match tgB c (.Tuple ts j q), tr T blts n c false e with
      | some g, some x => some (.unpack g x)
      | _, _ => none) else none
    | .If t a b _ => match tr T blts n c true t, omap (trS n c) a, omap (trS n c) b with
      | some x, some p, some q => some (.ite x (toSs p) (toSs q))
      | _, _, _ => none
    | .While t a [] _ => match tr T blts n c true t, omap (trS n c) a with
      | some x, some p => some (.whl x (toSs p))
      | _, _ => none
    | .For tg it a [] _ => if nosetB it = true then (match tgB c tg, trI blts (tr T blts n c false) c tg it, omap (trS n c) a with
      | some g, some i, some p => some (.for_ g i (toSs p))
      | _, _, _ => none) else none
    | .Raise (some (.Call (.Name f _) es kws _)) none _ => if (glB c.sc f && (nodeb f && (es.all nostar && kwAll kws))) = true then
        (match omap (tr T blts n c false) es, omap (fun q : Keyword => tr T blts n c false q.value) kws, mkD T f with
        | some xs, some ks, some (.inl _) => some (.raise (.mk f (toXs xs) (kwNames kws) (toXs ks)))
        | _, _, _ => none) else none
    | _ => none
end
theorem assign_sub {o i : Expr} {p' : Pos} {env : Env} (h : noSlB i = true) (v : Value) : assign (.Subscript o i p') env v = (do
      let ov ← holding [v] (eval o env)
      let iv ← holding [v, ov] (eval i env)
      standAt p'
      holding [v, ov, iv] (setItem ov iv v)
      release [v, ov, iv] []) := by
  cases i <;> first | rfl | cases h
theorem sole0 {t e : Expr} {l : Nat} {env : Env} (h : nocomp e = true) : swapsWithSole [t] e l env = pure false := swap0 (t := some t) h
theorem swapped_ok {ts : List Expr} {j : Nat} {q : Pos} {e : Expr} {env : Env} (h : isTup e = false) : swappedStores [.Tuple ts j q] e env = pure none := by
  cases e <;> first | rfl | cases h
section
variable {CA : Str → Option Addr} {T : Tab} {FA : Str → Option Addr} {blts : List Str}
theorem omap_sss {X : Cx} {R : Str → List D → Sto → Out D} {W : WX} {fu : Nat} {f : Stmt → Option Am.S} (hf : ∀ e x, f e = some x → SSt X CA T R fu W e x) : ∀ {es : List Stmt} {xs : List Am.S}, omap f es = some xs → SSs X CA T R fu W es (toSs xs)
  | [], xs, h => by cases h; exact ss_nil
  | e :: es, xs, h => by
    obtain ⟨b, l', h1, h2, rfl⟩ := omap_cons h
    exact ss_cons (hf e b h1) (omap_sss hf h2)
theorem trS_ok (n : Nat) : ∀ (c : TC) (st : Stmt) (x : Am.S), trS T blts n c st = some x → ∀ (X : Cx) (k : Nat) (R : Str → List D → Sto → Out D) (W : WX) (fu : Nat), CxOk X c → Bd X CA T FA blts k R W → PassesOwn (model X.prog X.w) X.A X.env X.xe → SSt X CA T R fu W st x := by
  induction n with
  | zero => intro c st x h; cases h
  | succ n ihn =>
    intro c st x h X k R W fu hk bd hp
    have ih : ∀ e x, tr T blts n c false e = some x → SE X CA T R W e x := fun e x h => (tr_ok n c false e x h X k R W hk bd).1 rfl
    have iht : ∀ e x, tr T blts n c true e = some x → ST X CA T R W e x := fun e x h => (tr_ok n c true e x h X k R W hk bd).2 rfl
    have ihs : ∀ e x, trS T blts n c e = some x → SSt X CA T R fu W e x := fun e x h => ihn c e x h X k R W fu hk bd hp
    unfold trS at h
    split at h
    · cases h; exact ss_pass
    · cases h; exact ss_brk
    · cases h; exact ss_cont
    · cases h; exact ss_doc
    · split at h
      · rename_i hn
        obtain ⟨y, hy, rfl⟩ := Option.map_eq_some_iff.mp h
        exact ss_exp (ih _ _ hy) (swap0 hn)
      · cases h
    · cases h; exact ss_retN
    · obtain ⟨y, hy, rfl⟩ := Option.map_eq_some_iff.mp h
      exact ss_ret (ih _ _ hy)
    · split at h
      · rename_i hn
        split at h
        · rename_i h1 h2
          cases h
          have q := stB_ok hk h1
          exact ss_setF bd q.1 q.2.1 q.2.2 (ih _ _ h2) (swap0 hn)
        · cases h
      · cases h
    · split at h
      · rename_i hn
        split at h
        · rename_i h1 h2
          cases h
          exact ss_setat bd (ih _ _ h2) (ih _ _ h1) (swap0 hn)
        · cases h
      · cases h
    · split at h
      · rename_i hn
        rw [Bool.and_eq_true] at hn
        split at h
        · rename_i h1 h2 h3
          cases h
          exact ss_setix (ih _ _ h3) (ih _ _ h1) (ih _ _ h2) (assign_sub hn.2) (sole0 hn.1)
        · cases h
      · cases h
    · split at h
      · rename_i hn
        rw [Bool.and_eq_true, Bool.not_eq_true'] at hn
        split at h
        · rename_i h1 h2
          cases h
          exact ss_unpack (ih _ _ h2) (tgB_ok hk bd.calm bd.nd h1) (sole0 hn.1) (swapped_ok hn.2) rfl
        · cases h
      · cases h
    · split at h
      · rename_i h1 h2 h3
        cases h
        exact ss_ite (iht _ _ h1) (omap_sss ihs h2) (omap_sss ihs h3)
      · cases h
    · split at h
      · rename_i h1 h2
        cases h
        exact ss_while hp (iht _ _ h1) (omap_sss ihs h2)
      · cases h
    · split at h
      · rename_i hs
        split at h
        · rename_i h1 h2 h3
          cases h
          exact ss_for bd.calm hp (trI_ok hk bd ih h2) (tgB_ok hk bd.calm bd.nd h1) (omap_sss ihs h3) (nosetB_ok hs)
        · cases h
      · cases h
    · split at h
      · rename_i hz
        simp only [Bool.and_eq_true] at hz
        split at h
        · rename_i xs ks e h1 h2 h3
          cases h
          exact ss_raise bd h3 (glB_ok hk hz.1) (nodeb_ok hz.2.1).1 hz.2.2.1 (fun e => by rw [omap_nil h1 e]; rfl) hz.2.2.2 (omap_ses ih h1 hz.2.2.1) (omap_sk ih h2)
        · cases h
      · cases h
    · cases h
end
end Am
set_option maxHeartbeats 4000000
/-! Am18: the knot: every def of the table does what the machine says. -/
namespace Am
open PySem PySem.Spec PyProof.Rows L2
theorem Rm.deeper {k : Nat} {A : Around} (r : Rm (k + 1) A) (env : Env) : Rm k (A.deeper env) := ⟨r.room.deeper env, r.gd⟩
section
variable {P : Program} {w : World} {K : PySem.W.Frag} {mg : Str → Option Value} {base : Heap}
/-- a def of the text, by its body -/
theorem fn_ofA {k : Nat} {f : Addr} {name qual : Str} {params : Arguments} {body : List Stmt} {scope : Scope} {dvs : List V} {kws : List (Str × V)} {fd : FuncData} {N ps : List Str} {sp : Sp}
    (F : FunD K name qual params body scope dvs kws f fd) (S : FnScope N ps scope) (len : ∀ vs H Q E, sp vs H Q E → vs.length = ps.length)
    (hbody : ∀ (cdv : Value) (A : Around) (outer : List Env) (s : Shared) (H : Hp) (vs : List V) (Q : VK) (E : XK), Rm k (A.deeper (envOfC qual scope s.heap.objs.size f cdv)) → sp vs H Q E →
      ∃ t, PSs (cxOf (L2.CX P w) P w K mg base N qual scope f cdv A outer s H E) body t ∧ t { nx := fun _ H' => Q .non H', rt := Q } (L2.start N vs) H) :
    FnA P w K mg base (k + 1) f fd ps sp := by
  obtain ⟨oc, od, dV, kV, doc, pm, an, cdv, ct, osl, rfl, lk, hcd, _, _⟩ := F.ex
  refine ⟨len, fun A outer s H args us vs Q E hr e0 hb r hsp => ?_⟩
  have hl := len _ _ _ _ hsp
  have KX : K.In s.heap := e0.mod.kin.keeps fun b o e => (e0.bs b o e).1
  have lim : s.heap.NoLimit := e0.mod.nolimit.keeps fun b o e => (e0.bs b o e).1
  have hkind : ∀ y ∈ ps.zip us, scope.names.lookup y.1 = some .local ∨ (scope.names.lookup y.1 = some .cell ∧ ((cellsFrom (s.heap.objs.size + 1) scope.names []).lookup y.1).isSome = true) := fun ⟨n, v⟩ hy => by
    rcases S.par n (List.of_mem_zip hy).1 with q | q
    · exact .inl q
    · exact .inr ⟨q, PySem.W.cellsFrom_some _ _ _ (.inl q)⟩
  refine codeAny_call_function hr.room.depth (KX _ _ lk) rfl S.co S.gen rfl (PySem.W.codeRec_of KX hcd) (hb _ _ _ _ ?_)
  refine wpAny_newFunctionEnv_cells S.kind hkind fun env he s1 x => ?_
  subst he
  refine ⟨lim.keeps x.toInCall.keep, codeAny_func ?_⟩
  obtain ⟨t, ht, hq⟩ := hbody cdv A outer s H vs Q E (hr.deeper _) hsp
  have I : Inv (cxOf (L2.CX P w) P w K mg base N qual scope f cdv A outer s H E) [] (L2.start N vs) H s1 := inv_start S hr.room.hd e0 hl r x
  refine wpAny_mono (ht.run [] s1 (L2.start N vs) H _ I hq) (fun fl s' hs => ?_) fun e s' hs => hs
  have fin : ∀ {σ' : HSt} {H' : Hp} {v : V} {u : Value}, Inv (cxOf (L2.CX P w) P w K mg base N qual scope f cdv A outer s H E) [] σ' H' s' → RelV v u → Q v H' → CE outer P w H s Q u s' :=
    fun {σ' H' v u} J rv q => ⟨v, H', J.os, J.bare, J.base, J.hok, rv, q⟩
  cases fl with
  | ret u =>
    obtain ⟨v, σ', H', J, rv, q⟩ := hs
    exact fin J rv q
  | next =>
    obtain ⟨σ', H', J, q⟩ := hs
    exact fin (v := V.non) (u := Value.none) J rfl q
  | brk =>
    obtain ⟨_, _, _, q⟩ := hs
    exact False.elim q
  | cont =>
    obtain ⟨_, _, _, q⟩ := hs
    exact False.elim q
end
/-- a def of the table stands at a -/
structure DefOk (K : PySem.W.Frag) (T : Tab) (blts : List Str) (d : FDef) (a : Addr) : Prop where
  ex : ∃ (name qual : Str) (params : Arguments) (body : List Stmt) (scope : Scope) (dvs : List V) (kws : List (Str × V)) (fd : FuncData) (N : List Str) (n : Nat) (xs : List Am.S),
    FunD K name qual params body scope dvs kws a fd ∧ FnScope N d.ps scope ∧ N.length = d.n ∧ omap (trS T blts n ⟨N, scope, fun _ => true⟩) body = some xs ∧ toSs xs = d.body ∧ ShpOk K fd d.ps d.shp
/-- the facts that don't speak of runs -/
structure SF (K : PySem.W.Frag) (mg : Str → Option Value) (CA : Str → Option Addr) (T : Tab) (FA : Str → Option Addr) (blts : List Str) : Prop where
  fn : ∀ f d, T.fn.lookup f = some d → ∃ a, FA f = some a ∧ DefOk K T blts d a
  glo : ∀ f a, FA f = some a → f.cps.contains 46 = false → mg f = some (.ref a) ∧ PySem.W.keepIn K (.ref a) = true
  con : ∀ x d, T.con.lookup x = some d → ∃ v u, mg x = some u ∧ RelV v u ∧ ∀ ρ H, RD K CA ρ H d v
  blt : ∀ x, x ∈ blts → mg x = none
  cls : ∀ C c, T.cls.lookup C = some c → ∃ a, CA C = some a ∧ mg C = some (.ref a) ∧ PySem.W.keepIn K (.ref a) = true ∧ btys.lookup C = none ∧ (∀ f, c.flds.contains f = true → NoAttr K a f) ∧ (c.exc = none → InsK K FA c a) ∧ ∀ e, c.exc = some e → ExcK K e a
  isi : ∀ t c, T.tn.contains t = true → T.cn.contains c = true → ∃ tv cv, tyV CA t = some tv ∧ tyV CA c = some cv ∧ PySem.W.kitOne K tv cv = some ((mroOf T t).contains c) ∧ (∀ n, cv = .type n → mg c = none ∧ bootBuiltins c = some (.type n) ∧ (c == ("__debug__" : Str)) = false ∧ c ≠ "__name__") ∧ ∀ a, cv = .ref a → mg c = some (.ref a) ∧ (c == ("__debug__" : Str)) = false
section
variable {K : PySem.W.Frag} {CA : Str → Option Addr} {ρ : List Addr} {H : Hp}
theorem rl_start {N : List Str} {n : Nat} {ds : List Am.D} {vs : List V} (hN : N.length = n) (h : RDs K CA ρ H ds vs) : RL K CA ρ H (L2.start N vs) (startL n ds) := by
  have hl := h.length
  refine ⟨by unfold startL L2.start; simp [hl, hN], fun i d e => ?_⟩
  unfold startL at e
  by_cases hi : i < ds.length
  · rw [List.getElem?_append_left (by simpa using hi), List.getElem?_map] at e
    obtain ⟨d', hd', e2⟩ := Option.map_eq_some_iff.mp e
    cases e2
    obtain ⟨v, hv, hr⟩ := h.get hd'
    exact ⟨v, start_get hv, hr⟩
  · rw [List.getElem?_append_right (by simpa using hi)] at e
    have := List.mem_of_getElem? e
    have := List.eq_of_mem_replicate this
    cases this
theorem GoodS.fin {E : XK} {o : SOut} {Q : VK} (h : Good K CA (fun c dd _ H' => E c dd H') (PD K CA) o.fin ρ [] H Q) : GoodS K CA (fun c dd _ H' => E c dd H') o ρ H { nx := fun _ H' => Q .non H', rt := Q } := by
  cases o with
  | nx L' S' => exact fun ρ' σ' H' g r l => h ρ' .non H' g r mk_non
  | rt d S' => exact fun ρ' v H' g r p => h ρ' v H' g r p
  | bk L' S' => exact h.elim
  | ct L' S' => exact h.elim
  | exc L' e S' => exact fun ρ' σ' H' c dd g r l x => h ρ' H' c dd g r x
  | bad => exact h.elim
end
/-- the knot -/
theorem knot {P : Program} {w : World} {K : PySem.W.Frag} {mg : Str → Option Value} {base : Heap} {CA : Str → Option Addr} {T : Tab} {FA : Str → Option Addr} {blts : List Str} (F : SF K mg CA T FA blts) (fu : Nat) : ∀ n : Nat, GF P w K mg base CA T FA blts (3 * n) (run T fu n)
  | 0 => ⟨fun f d hf => by
      obtain ⟨a, ha, D⟩ := F.fn f d hf
      obtain ⟨name, qual, params, body, scope, dvs, kws, fd, N, m, xs, F1, S1, hN, htr, hxs, hsh⟩ := D.ex
      exact ⟨a, ha, fd, ⟨fun vs H Q E h => h.1, fun A outer s H args us vs Q E hr e0 hb r ⟨_, ρ, S, ds, _, _, h⟩ => h.elim⟩, hsh⟩, F.glo, F.con, F.blt, F.cls, F.isi⟩
  | n + 1 => by
    have ih := knot (P := P) (w := w) (base := base) F fu n
    refine ⟨fun f d hf => ?_, F.glo, F.con, F.blt, F.cls, F.isi⟩
    obtain ⟨a, ha, D⟩ := F.fn f d hf
    obtain ⟨name, qual, params, body, scope, dvs, kws, fd, N, m, xs, F1, S1, hN, htr, hxs, hsh⟩ := D.ex
    refine ⟨a, ha, fd, ?_, hsh⟩
    refine fn_ofA (k := 3 * n + 2) F1 S1 (fun vs H Q E h => h.1) fun cdv A outer s H vs Q E hr ⟨hvs, ρ, S, ds, rp, hds, hg⟩ => ?_
    have bd : Bd (cxOf (L2.CX P w) P w K mg base N qual scope a cdv A outer s H E) CA T FA blts (3 * n) (run T fu n) (fun c dd _ H' => E c dd H') := ⟨rfl, S1.nd, takes_of rfl rfl rfl rfl, hr, ih⟩
    have hk : CxOk (cxOf (L2.CX P w) P w K mg base N qual scope a cdv A outer s H E) ⟨N, scope, fun _ => true⟩ := ⟨rfl, rfl, fun _ _ => rfl⟩
    refine ⟨_, omap_sss (CA := CA) (T := T) (R := run T fu n) (W := fun c dd _ H' => E c dd H') (fu := fu) (fun e x h => trS_ok m _ e x h _ (3 * n) (run T fu n) _ fu hk bd (passes_of rfl)) htr, ?_⟩
    refine ⟨ρ, startL d.n ds, S, rp, rl_start hN hds, ?_⟩
    unfold run at hg
    rw [hf] at hg
    have hl : ds.length = d.ps.length := by rw [hds.length]; exact hvs
    simp only [if_pos hl] at hg
    rw [hxs]
    exact GoodS.fin hg
end Am
set_option maxHeartbeats 4000000
/-! Am19: the head's Hook, the end. -/
namespace Am
open PySem PySem.Spec PyProof.Rows L2
/-- no list stands in the written part -/
def noListB (K : PySem.W.Frag) : Bool := K.all fun p => !(p.2.cls == .type "list")
theorem lookup_mem {α : Type} {a : Addr} {o : α} : ∀ {l : List (Addr × α)}, l.lookup a = some o → (a, o) ∈ l
  | [], h => by cases h
  | (b, u) :: r, h => by
    rw [List.lookup_cons] at h
    cases e : (a == b) with
    | true =>
      rw [e] at h
      cases h
      rw [beq_iff_eq.mp e]
      exact List.mem_cons_self ..
    | false =>
      rw [e] at h
      exact List.mem_cons_of_mem _ (lookup_mem h)
theorem noListB_ok {K : PySem.W.Frag} (h : noListB K = true) {a : Addr} {o : Obj} (e : K.lookup a = some o) : o.cls ≠ .type "list" := fun z => by
  have := List.all_eq_true.mp h _ (lookup_mem e)
  rw [z] at this
  cases this
/-- the law's call -/
theorem law_callA {P : Program} {w : World} {K : PySem.W.Frag} {mg mb : Str → Option Value} {k : Nat} {fa a : Addr} {fd : FuncData} {x : Str} {sp : Sp} {s₁ : Shared} {vs : List Value} {ns : List Int}
    (KX : K.In s₁.heap) (nl : noListB K = true) (hns : s₁.heap.Ns mainGlobals mg) (hb : s₁.heap.Ns builtinsNs mb) (hbb : ∀ x : Str, x ≠ "__name__" → mb x = bootBuiltins x) (hlim : s₁.heap.NoLimit) (hg : s₁.gens = #[])
    (ha : s₁.heap.get? a = some { cls := .type "list", data := .seq vs.toArray }) (hi : IntsAre vs ns) (hl : ns.length ≤ sizeLine) (hr : Rm k callerA)
    (F : ∀ base : Heap, K.In base → base.Ns mainGlobals mg → FnA P w K mg base k fa fd [x] sp) (hbind : ∀ (s : Shared) (u : Value), BindsTo s fd ⟨[u], []⟩ [(x, u)])
    (hsp : ∀ H : Hp, (∀ b, b ≠ a → H b = none) → (∃ o, H a = some (.frz o (.lst (ns.map V.int)))) → sp [.ref a] H (fun v _ => v = .bl true) fun _ _ _ => False) :
    codeAny (model P w) callerA (.call (.ref fa) ⟨[.ref a], []⟩) (fun r s' => r = .ok (.ret (.bool true)) ∧ OldK s₁.heap s'.heap ∧ s'.os = s₁.os ∧ AllBare s'.gens) s₁ := by
  have rv := vals_ints hi
  have lenV := hi.length
  have hk : K.lookup a = none := by
    cases e : K.lookup a with
    | none => rfl
    | some o =>
      have z := KX a o e
      rw [ha] at z
      cases z
      exact absurd rfl (noListB_ok nl e)
  have core : ∀ H : Hp, (∀ b, b ≠ a → H b = none) → (∃ o, H a = some (.frz o (.lst (ns.map V.int)))) → HOk P w H s₁.heap →
      codeAny (model P w) callerA (.call (.ref fa) ⟨[.ref a], []⟩) (fun r s' => r = .ok (.ret (.bool true)) ∧ OldK s₁.heap s'.heap ∧ s'.os = s₁.os ∧ AllBare s'.gens) s₁ := by
    intro H hO hS hok
    have hA : ∀ b, H b ≠ none → b = a := fun b h => Decidable.byContradiction fun z => h (hO b z)
    have base_of : ∀ {b : Addr} {o : Obj}, s₁.heap.get? b = some o → H b = none → (hidT s₁.heap H).get? b = some o := fun e n => hidT_get e n
    have noA : ∀ {b : Addr} {o : Obj} {es : Array DictEntry} {ep : Nat}, s₁.heap.get? b = some o → o.data = .dict es ep → H b = none := fun {b o es ep} e d => by
      cases q : H b with
      | none => rfl
      | some u =>
        have e' : b = a := hA b (by rw [q]; simp)
        subst e'
        rw [ha] at e; cases e
        have d' : Data.seq vs.toArray _ = Data.dict es ep := d
        cases d'
    have nsK : ∀ {b : Addr} {m : Str → Option Value}, s₁.heap.Ns b m → (hidT s₁.heap H).Ns b m := fun {b m} ⟨o, es, ep, e, d, r⟩ => ⟨o, es, ep, base_of e (noA e d), d, r⟩
    have hKb : K.In (hidT s₁.heap H) := fun b o e => base_of (KX b o e) (by
      cases q : H b with
      | none => rfl
      | some u =>
        have e' : b = a := hA b (by rw [q]; simp)
        subst e'
        rw [hk] at e; cases e)
    have hM : Mod K mg (hidT s₁.heap H) := ⟨hKb, nsK hns, ⟨mb, nsK hb, hbb⟩, let ⟨mc, h1, h2⟩ := hlim; ⟨mc, nsK h1, h2⟩⟩
    have e0 : Env0 P w K mg (hidT s₁.heap H) callerA [] s₁ H := ⟨rfl, hM, fun b o e => of_hidT e, Nat.le_of_eq (hidT_size _ _), trivial, fun b hb => absurd (show b ∈ ([] : List Addr) from hb) (by simp), hok, .of_eq hg⟩
    refine codeAny_mono ((F _ hKb (nsK hns)).run callerA [] s₁ H ⟨[.ref a], []⟩ [.ref a] [.ref a] _ _ hr e0 (hbind s₁ (.ref a)) (.cons rfl .nil) (hsp H hO hS)) fun r s' h => ?_
    cases r with
    | error e =>
      obtain ⟨_, _, _, _, _, _, _, _, _, _, _, _, hE⟩ := h
      exact hE.elim
    | ok fl =>
      cases fl with
      | next => exact False.elim h
      | brk => exact False.elim h
      | cont => exact False.elim h
      | ret u =>
        obtain ⟨v, H', os, bare, un, hok', r', q⟩ := h
        have q' : v = .bl true := q
        subst q'
        obtain rfl : u = Value.bool true := r'
        refine ⟨rfl, OldK.of_keep fun b o e => ?_, os, bare⟩
        cases q : H b with
        | none => exact un.keep b o e q (by intro z; exact absurd (show b ∈ ([] : List Addr) from z) (by simp)) (by simp)
        | some u =>
          have hba : b = a := hA b (by rw [q]; simp)
          obtain ⟨ob, z⟩ := hS
          subst hba
          have z2 := un.frzs b ob _ z
          obtain ⟨e1, _⟩ := hok b _ z
          obtain ⟨e2, _⟩ := hok' b _ z2
          rw [e] at e1; cases e1
          exact e2
  refine core (fun b => if b = a then some (.frz { cls := .type "list", data := .seq vs.toArray } (.lst (ns.map V.int))) else none) (fun b hb => if_neg hb) ⟨_, if_pos rfl⟩ (fun b u z => ?_)
  by_cases hb : b = a
  · have z' := (if_pos hb).symm.trans z
    cases z'
    subst hb
    exact ⟨ha, by rw [List.length_map]; exact hl, vs, _, rv, ha⟩
  · have z' := (if_neg hb).symm.trans z
    cases z'
theorem rds_ints {K : PySem.W.Frag} {CA : Str → Option Addr} {ρ : List Addr} {H : Hp} : ∀ ns : List Int, RDs K CA ρ H (ns.map Am.D.int) (ns.map V.int)
  | [] => .nil
  | n :: ns => .cons mk_int (rds_ints ns)
/-- a law, its end: the machine answers True at every script -/
theorem walk_ofA {l : PySem.W.OpenLaw} {n k : Nat} {q : Program} {loose : List Str} {XP : (Str → Option Value) → Heap → Prop} {YP : World → Heap → Prop} {d : DefRec} {x law : Str} {T : Tab} {fu m : Nat}
    (hn : l.most = some n) (hn2 : n ≤ sizeLine) (hdf : d.params.defaults = []) (hr : Rm (3 * m) callerA)
    (pure_law : ∀ ns : List Int, ns.length ≤ n → ∃ S', run T fu m law [.ref 0] [.ro (ns.map Am.D.int)] = .ok (.bl true) S')
    (F : ∀ (w : World) (mg : Str → Option Value) (fa : Addr) (h : Heap), YP w h → h.Ns mainGlobals mg → mg d.name = some (.ref fa) →
      ∃ (K : PySem.W.Frag) (fd : FuncData) (CA : Str → Option Addr), K.In h ∧ noListB K = true ∧ (∀ (s : Shared) (u : Value), BindsTo s fd ⟨[u], []⟩ [(x, u)]) ∧
        ∀ base : Heap, K.In base → base.Ns mainGlobals mg → FnA l.prog w K mg base (3 * m) fa fd [x] (spR K CA 1 (run T fu m law))) :
    PySem.W.WalkO q loose XP YP l.row.toRowW d [] (fun f vs => PySem.call f vs) := by
  refine Att.attach_call hn hdf fun w s₀ s₁ mg mb fa o pm cd doc a vs ns G Y ho hd hcd hmg hobj hints hlen hg => ?_
  obtain ⟨K, fd, CA, KX, nl, hb, hF⟩ := F w mg fa _ Y G.T.g hmg
  refine law_callA KX nl G.T.g G.T.b G.T.builtins G.T.nolimit hg hobj hints (Nat.le_trans hlen hn2) hr hF hb fun H hO ⟨ob, hS⟩ => ?_
  obtain ⟨S', hrun⟩ := pure_law ns hlen
  have rp : Rep K CA [a] H [.ro (ns.map Am.D.int)] := by
    refine ⟨rfl, fun i j b h1 h2 => ?_, fun i b u h1 h2 => ?_⟩
    · have e1 := (List.getElem?_eq_some_iff.mp h1).1
      have e2 := (List.getElem?_eq_some_iff.mp h2).1
      simp at e1 e2
      omega
    · have e1 := (List.getElem?_eq_some_iff.mp h1).1
      simp at e1
      subst e1
      cases h1
      cases h2
      exact ⟨_, ⟨ob, hS⟩, rds_ints ns⟩
  refine ⟨rfl, [a], [.ro (ns.map Am.D.int)], [.ref 0], rp, RDs.cons (by simp only [RD]; exact ⟨a, rfl, rfl⟩) .nil, ?_⟩
  rw [hrun]
  intro ρ' v H' g r p
  exact rd_bl p
/-! ### the Hook: functions, and one check more -/
abbrev AlX : Type := Bool × He.AlD
def obsX (ex : PySem.W.Frag → Bool) (fa : List He.Fa) (fn : List He.DefD) (K : PySem.W.Frag) : AlX := (ex K, He.obsD fa fn K)
def obsXG (n : Nat) (ex : PySem.W.Frag → Bool) (fa : List He.Fa) (fn : List He.DefD) (g : Addr → Option Obj) : AlX := obsX ex fa fn (He.frG g (He.asD g n))
def SaysX (ex : PySem.W.Frag → Bool) (fa : List He.Fa) (fn : List He.DefD) (K : PySem.W.Frag) : Prop := ex K = true ∧ He.SaysD fa fn K
def hookX (n : Nat) (ex : PySem.W.Frag → Bool) (fa : List He.Fa) (fn : List He.DefD) : PySem.W.Hook where
  α := AlX
  obs := fun s => obsXG n ex fa fn s.heap.get?
  val := fun _ => (true, He.valD fn)
  says := fun _ h => ∃ K : PySem.W.Frag, K.In h ∧ SaysX ex fa fn K
  of := fun _ _ e => ⟨_, He.frG_in, ⟨congrArg Prod.fst e, congrArg Prod.snd e⟩⟩
  keeps := fun _ _ _ ⟨K, hK, c⟩ k => ⟨K, PySem.W.Frag.In.keeps hK k, c⟩
theorem obsXG_eq {n : Nat} {ex : PySem.W.Frag → Bool} {fa : List He.Fa} {fn : List He.DefD} {g : Addr → Option Obj} {s : Shared} (h : ∀ a, g a = s.heap.get? a) : obsXG n ex fa fn g = (hookX n ex fa fn).obs s := by
  have e : g = s.heap.get? := funext h
  rw [e] <;> rfl
end Am
set_option maxHeartbeats 2000000
/-! Am20: the table's facts by one check of the written part. -/
namespace Am
open PySem PySem.Spec PyProof.Rows L2 He
theorem mem_lookup_s {α : Type} {x : Str} {v : α} : ∀ {l : List (Str × α)}, l.lookup x = some v → (x, v) ∈ l
  | [], h => by cases h
  | (b, u) :: r, h => by
    rw [List.lookup_cons] at h
    cases e : (x == b) with
    | true =>
      rw [e] at h
      cases h
      rw [beq_iff_eq.mp e]
      exact List.mem_cons_self ..
    | false =>
      rw [e] at h
      exact List.mem_cons_of_mem _ (mem_lookup_s h)
abbrev Paths := List (Str × (Str × Option Str))
def FAof (K : PySem.W.Frag) (paths : Paths) (f : Str) : Option Addr := (paths.lookup f).map (fAd K)
def CAof (K : PySem.W.Frag) (T : Tab) (C : Str) : Option Addr := if (T.cls.lookup C).isSome = true then some (ga K C) else none
def scalB : Am.D → Value → Bool
  | .non, .none => true
  | .bl b, .bool c => b == c
  | .int i, .int j _ => decide (i = j)
  | .str x, .str y _ => decide (x = y)
  | _, _ => false
theorem scalB_ok {d : Am.D} {u : Value} (h : scalB d u = true) : ∃ v, RelV v u ∧ ∀ (K : PySem.W.Frag) (CA : Str → Option Addr) (ρ : List Addr) (H : Hp), RD K CA ρ H d v := by
  cases d with
  | non => cases u with
    | none => exact ⟨.non, rfl, fun _ _ _ _ => mk_non⟩
    | _ => cases h
  | bl b => cases u with
    | bool c =>
      have e : b = c := eq_of_beq (show (b == c) = true from h)
      subst e
      exact ⟨.bl b, rfl, fun _ _ _ _ => mk_bl⟩
    | _ => cases h
  | int i => cases u with
    | int j t =>
      have e : i = j := of_decide_eq_true h
      subst e
      exact ⟨.int i, ⟨t, rfl⟩, fun _ _ _ _ => mk_int⟩
    | _ => cases h
  | str x => cases u with
    | str y t =>
      have e : x = y := of_decide_eq_true h
      subst e
      exact ⟨.str x, ⟨t, rfl⟩, fun _ _ _ _ => mk_str⟩
    | _ => cases h
  | tup ds => cases u <;> cases h
  | ref i => cases u <;> cases h
  | exc C ns ds => cases u <;> cases h
def gloV (K : PySem.W.Frag) (x : Str) (v : Value) : Bool := eqO (PySem.W.nsIn K mainGlobals x) (some (some v))
def freV (K : PySem.W.Frag) (x : Str) : Bool := eqO (PySem.W.nsIn K mainGlobals x) (some none)
def conB (K : PySem.W.Frag) (T : Tab) : Bool := T.con.all fun p => match PySem.W.nsIn K mainGlobals p.1 with
  | some (some u) => scalB p.2 u
  | _ => false
def gloB (K : PySem.W.Frag) (paths : Paths) : Bool := paths.all fun p => p.1.cps.contains 46 || (decide (p.2 = (p.1, none)) && (gloV K p.1 (.ref (ga K p.1)) && PySem.W.keepIn K (.ref (ga K p.1))))
def isiCB (K : PySem.W.Frag) (a : Addr) : Bool := eqO (PySem.W.findIn K (.ref a) "__class__") (some (some (.builtin "object.__class__"))) && (eqO (PySem.W.specialIn K (.builtin "object.__class__") "__get__") (some (some (.builtin "getset_descriptor.__get__"))) &&
  (decide (PySem.W.takesIn K (.builtin "object.__class__") = some true) && decide (PySem.W.mroIn K a (.type "object") = some true)))
theorem isiCB_ok {K : PySem.W.Frag} {a : Addr} (h : isiCB K a = true) : IsiC K a := by
  obtain ⟨h1, h⟩ := ba h
  obtain ⟨h2, h⟩ := ba h
  obtain ⟨h3, h4⟩ := ba h
  exact ⟨eqO_ok h1, eqO_ok h2, of_decide_eq_true h3, of_decide_eq_true h4⟩
def excBB (K : PySem.W.Frag) (a : Addr) : Bool := isiCB K a && ((PySem.W.clsIn K a).isSome && (eqO (PySem.W.findIn K (.ref a) "__getattribute__") (some (some (.builtin "BaseException.__getattribute__"))) && (eqO (PySem.W.findIn K (.ref a) "__getattr__") (some none) &&
  (eqO (PySem.W.findIn K (.ref a) "__setattr__") (some (some (.builtin "object.__setattr__"))) && (decide (PySem.W.subIn K (.ref a) (.type "BaseException") = some true) && (PySem.W.hasDictIn K a && decide (PySem.W.typeIn K (.ref a) = some (.type "type"))))))))
theorem excBB_ok {K : PySem.W.Frag} {a : Addr} (h : excBB K a = true) : ExcB K a := by
  obtain ⟨h1, h⟩ := ba h
  obtain ⟨h2, h⟩ := ba h
  obtain ⟨h3, h⟩ := ba h
  obtain ⟨h4, h⟩ := ba h
  obtain ⟨h5, h⟩ := ba h
  obtain ⟨h6, h⟩ := ba h
  obtain ⟨h7, h8⟩ := ba h
  exact ⟨isiCB_ok h1, h2, eqO_ok h3, eqO_ok h4, eqO_ok h5, of_decide_eq_true h6, h7, of_decide_eq_true h8⟩
/-- the built-in class above -/
inductive Bk where
  | v | l | a
def Bk.tail : Bk → List Value
  | .v => [.type "ValueError", .type "Exception", .type "BaseException", .type "object"]
  | .l => [.type "LookupError", .type "Exception", .type "BaseException", .type "object"]
  | .a => [.type "ArithmeticError", .type "Exception", .type "BaseException", .type "object"]
def Bk.newId : Bk → String
  | .v => "ValueError.__new__" | .l => "LookupError.__new__" | .a => "ArithmeticError.__new__"
theorem Bk.facts (k : Bk) : ∃ B initId, ExcBaseFacts B k.newId initId k.tail ∧ StoreFacts B k.tail "object.__setattr__" "object" := by
  cases k with
  | v => exact ⟨_, _, PySem.F.excBase_ValueError, PySem.F.store_ValueError⟩
  | l => exact ⟨_, _, PySem.F.excBase_LookupError, PySem.F.store_LookupError⟩
  | a => exact ⟨_, _, PySem.F.excBase_ArithmeticError, PySem.F.store_ArithmeticError⟩
def bareShp : Shp → Bool
  | [((0, []), [])] => true
  | _ => false
/-- its own def __init__ -/
def iniB (K : PySem.W.Frag) (e : List Str × Shp) (a : Addr) : Bool := eqO (PySem.W.findIn K (.ref a) "__init__") (some (some (.ref (ma K a "__init__")))) && (decide (PySem.W.typeIn K (.ref (ma K a "__init__")) = some (.type "function")) && e.1.all fun r => eqO (PySem.W.findIn K (.ref a) r) (some none))
def excOne (K : PySem.W.Frag) (e : List Str × Shp) (a : Addr) (k : Bk) : Bool := if e.1.isEmpty = true then (bareShp e.2 && PySem.W.excIn K a k.tail k.newId) else (PySem.W.excInitIn K a k.tail k.newId && (PySem.W.excOver K a k.tail && iniB K e a))
def excB (K : PySem.W.Frag) (e : List Str × Shp) (a : Addr) : Bool := excBB K a && (excOne K e a .v || (excOne K e a .l || excOne K e a .a))
theorem excB_ok {K : PySem.W.Frag} {e : List Str × Shp} {a : Addr} (h : excB K e a = true) (hd : e.1 ≠ [] → iniB K e a = true → ExcDef K e a) : ExcK K e a := by
  obtain ⟨h1, h⟩ := ba h
  have key : ∀ k, excOne K e a k = true → ExcK K e a := fun k hk => by
    obtain ⟨B, initId, f1, f2⟩ := k.facts
    refine ⟨excBB_ok h1, B, k.newId, initId, k.tail, f1, f2, ?_⟩
    unfold excOne at hk
    split at hk
    · rename_i hz
      obtain ⟨z1, z2⟩ := ba hk
      refine .inl ⟨List.isEmpty_iff.mp hz, ?_, z2⟩
      unfold bareShp at z1
      split at z1
      · assumption
      · cases z1
    · rename_i hz
      obtain ⟨z1, z2⟩ := ba hk
      obtain ⟨z2, z3⟩ := ba z2
      have hne : e.1 ≠ [] := fun z => hz (by rw [z]; rfl)
      exact .inr ⟨hne, z1, z2, hd hne z3⟩
  rw [Bool.or_eq_true, Bool.or_eq_true] at h
  rcases h with h | h | h
  · exact key _ h
  · exact key _ h
  · exact key _ h
def clsB (K : PySem.W.Frag) (C : Str) (c : CDef) : Bool := gloV K C (.ref (ga K C)) && (PySem.W.keepIn K (.ref (ga K C)) && ((btys.lookup C).isNone && ((c.flds.all fun f => eqO (PySem.W.findIn K (.ref (ga K C)) f) (some none)) && match c.exc with
  | none => false
  | some e => excB K e (ga K C))))
def isiB1 (K : PySem.W.Frag) (c : Str) : Value → Bool
  | .type n => freV K c && (decide (bootBuiltins c = some (.type n)) && (!(c == ("__debug__" : Str)) && decide (c ≠ "__name__")))
  | .ref a => gloV K c (.ref a) && !(c == ("__debug__" : Str))
  | _ => false
def isiB (K : PySem.W.Frag) (T : Tab) : Bool := T.tn.all fun t => T.cn.all fun c => match tyV (CAof K T) t, tyV (CAof K T) c with
  | some tv, some cv => decide (PySem.W.kitOne K tv cv = some ((mroOf T t).contains c)) && isiB1 K c cv
  | _, _ => false
def sfB (T : Tab) (paths : Paths) (blts : List Str) (K : PySem.W.Frag) : Bool := noListB K && (conB K T && (gloB K paths && ((blts.all fun x => freV K x) && ((T.cls.all fun p => clsB K p.1 p.2) && isiB K T))))
theorem sf_of {K : PySem.W.Frag} {h : Heap} {mg : Str → Option Value} {T : Tab} {paths : Paths} {blts : List Str} (X : K.In h) (G : h.Ns mainGlobals mg) (c : sfB T paths blts K = true)
    (defs : ∀ f d, T.fn.lookup f = some d → ∃ a, FAof K paths f = some a ∧ DefOk K T blts d a) (excs : ∀ C c e, T.cls.lookup C = some c → c.exc = some e → e.1 ≠ [] → iniB K e (ga K C) = true → ExcDef K e (ga K C)) : SF K mg (CAof K T) T (FAof K paths) blts := by
  obtain ⟨_, c⟩ := ba c
  obtain ⟨c1, c⟩ := ba c
  obtain ⟨c2, c⟩ := ba c
  obtain ⟨c3, c⟩ := ba c
  obtain ⟨c4, c5⟩ := ba c
  have mgV : ∀ {x : Str} {v : Value}, gloV K x v = true → mg x = some v := fun h => PySem.W.mg_of X G (eqO_ok h)
  have mgN : ∀ {x : Str}, freV K x = true → mg x = none := fun h => PySem.W.mg_none_of X G (eqO_ok h)
  refine ⟨defs, fun f a hf hdot => ?_, fun x d hx => ?_, fun x hx => mgN (List.all_eq_true.mp c3 x hx), fun C cd hC => ?_, fun t c ht hc => ?_⟩
  · unfold FAof at hf
    obtain ⟨p, hp, rfl⟩ := Option.map_eq_some_iff.mp hf
    have z := List.all_eq_true.mp c2 _ (mem_lookup_s hp)
    rw [Bool.or_eq_true] at z
    rcases z with z | z
    · rw [hdot] at z; cases z
    · obtain ⟨z1, z⟩ := ba z
      obtain ⟨z2, z3⟩ := ba z
      have e : p = (f, none) := of_decide_eq_true z1
      subst e
      exact ⟨mgV z2, z3⟩
  · have z := List.all_eq_true.mp c1 _ (mem_lookup_s hx)
    dsimp only at z
    cases q : PySem.W.nsIn K mainGlobals x with
    | none => rw [q] at z; cases z
    | some o =>
      cases o with
      | none => rw [q] at z; cases z
      | some u =>
        rw [q] at z
        obtain ⟨v, hv, hr⟩ := scalB_ok z
        exact ⟨v, u, PySem.W.mg_of X G q, hv, hr K (CAof K T)⟩
  · have z := List.all_eq_true.mp c4 _ (mem_lookup_s hC)
    obtain ⟨z1, z⟩ := ba z
    obtain ⟨z2, z⟩ := ba z
    obtain ⟨z3, z⟩ := ba z
    obtain ⟨z4, z5⟩ := ba z
    refine ⟨ga K C, by unfold CAof; rw [hC]; rfl, mgV z1, z2, Option.isNone_iff_eq_none.mp z3, fun f hf => eqO_ok (List.all_eq_true.mp z4 f (by simpa using hf)), fun e => ?_, fun e he => ?_⟩
    · dsimp only at z5
      rw [e] at z5
      cases z5
    · dsimp only at z5
      rw [he] at z5
      exact excB_ok z5 (excs C cd e hC he)
  · have z := List.all_eq_true.mp (List.all_eq_true.mp c5 t (by simpa using ht)) c (by simpa using hc)
    cases q1 : tyV (CAof K T) t with
    | none => rw [q1] at z; cases z
    | some tv =>
      cases q2 : tyV (CAof K T) c with
      | none => rw [q1, q2] at z; cases z
      | some cv =>
        rw [q1, q2] at z
        obtain ⟨z1, z2⟩ := ba z
        refine ⟨tv, cv, rfl, rfl, of_decide_eq_true z1, fun n e => ?_, fun a e => ?_⟩
        · subst e
          obtain ⟨y1, y⟩ := ba z2
          obtain ⟨y2, y⟩ := ba y
          obtain ⟨y3, y4⟩ := ba y
          exact ⟨mgN y1, of_decide_eq_true y2, by simpa using y3, of_decide_eq_true y4⟩
        · subst e
          obtain ⟨y1, y2⟩ := ba z2
          exact ⟨mgV y1, by simpa using y2⟩
end Am
set_option maxHeartbeats 2000000
/-! Am21: shapes of calls. -/
namespace Am
open PySem PySem.Spec PyProof.Rows L2
theorem paired_range {us ws : List Value} : Paired (SrcIs us ws) ((List.range us.length).map Src.pos) us := by
  have key : ∀ (vs : List Value) (k : Nat), (∀ i, vs[i]? = us[k + i]?) → Paired (SrcIs us ws) ((List.range' k vs.length).map Src.pos) vs := by
    intro vs
    induction vs with
    | nil => intro k _; exact .nil
    | cons v vs ih =>
      intro k h
      refine .cons ?_ (ih (k + 1) fun i => ?_)
      · have := h 0
        simpa [SrcIs] using this.symm
      · have := h (i + 1)
        rw [show k + 1 + i = k + (i + 1) by omega]
        simpa using this
  have := key us 0 fun i => by simp
  rwa [← List.range_eq_range'] at this
/-- all by position -/
theorem shp_pos {K : PySem.W.Frag} {fd : FuncData} {ps : List Str} {k : Nat} (hl : ps.length = k) (hb : ∀ (s : Shared) (us : List Value), us.length = k → BindsTo s fd ⟨us, []⟩ (ps.zip us)) : ShpOk K fd ps [((k, []), (List.range k).map Src.pos)] := by
  have look : ∀ {n : Nat} {kn : List Str} {src : List Src}, ([((k, []), (List.range k).map Src.pos)] : Shp).lookup (n, kn) = some src → n = k ∧ kn = [] ∧ src = (List.range k).map Src.pos := fun {n kn src} h => by
    rw [List.lookup_cons] at h
    cases e : ((n, kn) == (k, ([] : List Str))) with
    | false => rw [e] at h; cases h
    | true =>
      rw [e] at h
      cases h
      have := beq_iff_eq.mp e
      exact ⟨congrArg Prod.fst this, congrArg Prod.snd this, rfl⟩
  refine ⟨fun n kn src h s us ws X h1 h2 => ?_, fun n kn src h => ?_⟩
  · obtain ⟨rfl, rfl, rfl⟩ := look h
    refine ⟨us, ?_, hb s us h1⟩
    rw [← h1]
    exact paired_range
  · obtain ⟨rfl, rfl, rfl⟩ := look h
    simp [hl]
/-- one shape ahead of others -/
theorem shp_cons {K : PySem.W.Frag} {fd : FuncData} {ps : List Str} {n : Nat} {kn : List Str} {src : List Src} {r : Shp} (hl : src.length = ps.length)
    (hb : ∀ (s : Shared) (us ws : List Value), us.length = n → ws.length = kn.length → ∃ gs, Paired (SrcIs us ws) src gs ∧ BindsTo s fd ⟨us, kn.zip ws⟩ (ps.zip gs)) (h : ShpOk K fd ps r) : ShpOk K fd ps (((n, kn), src) :: r) := by
  refine ⟨fun m km sr hs s us ws X h1 h2 => ?_, fun m km sr hs => ?_⟩
  · rw [List.lookup_cons] at hs
    cases e : ((m, km) == (n, kn)) with
    | false => rw [e] at hs; exact h.bind m km sr hs s us ws X h1 h2
    | true =>
      rw [e] at hs
      cases hs
      have := beq_iff_eq.mp e
      cases this
      exact hb s us ws h1 h2
  · rw [List.lookup_cons] at hs
    cases e : ((m, km) == (n, kn)) with
    | false => rw [e] at hs; exact h.len m km sr hs
    | true =>
      rw [e] at hs
      cases hs
      exact hl
theorem shp_nil {K : PySem.W.Frag} {fd : FuncData} {ps : List Str} : ShpOk K fd ps [] := ⟨fun _ _ _ h => (nomatch h), fun _ _ _ h => (nomatch h)⟩
/-- any call of a def without defaults -/
theorem funD_binds {K : PySem.W.Frag} {x qual : Str} {params : Arguments} {body : List Stmt} {scope : Scope} {kws : List (Str × V)} {f : Addr} {fd : FuncData} {args : Args} {binds : List (Str × Value)} (F : FunD K x qual params body scope [] kws f fd)
    (h : ∀ (kV doc pm : Value) (an : Option Addr) (cdv ct : Value), bindArgs (PySem.W.fnOf x qual params body scope .none kV doc pm an cdv ct) args = pure binds) (s : Shared) : BindsTo s fd args binds := by
  obtain ⟨oc, od, dV, kV, doc, pm, an, cdv, ct, osl, rfl, lk, hcd, hD, hK⟩ := F.ex
  rcases hD with ⟨_, rfl⟩ | ⟨e, _⟩
  · exact .of_eq (h kV doc pm an cdv ct)
  · exact absurd rfl e
end Am
set_option maxHeartbeats 4000000
/-! Am22: the end, the def's object told behind the base. -/
namespace Am
open PySem PySem.Spec PyProof.Rows L2
/-- the law's call -/
theorem law_callF {P : Program} {w : World} {K : PySem.W.Frag} {mg mb : Str → Option Value} {k : Nat} {fa a : Addr} {x : Str} {sp : Sp} {s₁ : Shared} {vs : List Value} {ns : List Int}
    (KX : K.In s₁.heap) (nl : noListB K = true) (hns : s₁.heap.Ns mainGlobals mg) (hb : s₁.heap.Ns builtinsNs mb) (hbb : ∀ x : Str, x ≠ "__name__" → mb x = bootBuiltins x) (hlim : s₁.heap.NoLimit) (hg : s₁.gens = #[])
    (ha : s₁.heap.get? a = some { cls := .type "list", data := .seq vs.toArray }) (hi : IntsAre vs ns) (hl : ns.length ≤ sizeLine) (hr : Rm k callerA)
    (F : ∀ base : Heap, K.In base → base.Ns mainGlobals mg → ∃ fd : FuncData, FnA P w K mg base k fa fd [x] sp ∧ ∀ (s : Shared) (u : Value), K.In s.heap → BindsTo s fd ⟨[u], []⟩ [(x, u)])
    (hsp : ∀ H : Hp, (∀ b, b ≠ a → H b = none) → (∃ o, H a = some (.frz o (.lst (ns.map V.int)))) → sp [.ref a] H (fun v _ => v = .bl true) fun _ _ _ => False) :
    codeAny (model P w) callerA (.call (.ref fa) ⟨[.ref a], []⟩) (fun r s' => r = .ok (.ret (.bool true)) ∧ OldK s₁.heap s'.heap ∧ s'.os = s₁.os ∧ AllBare s'.gens) s₁ := by
  have rv := vals_ints hi
  have lenV := hi.length
  have hk : K.lookup a = none := by
    cases e : K.lookup a with
    | none => rfl
    | some o =>
      have z := KX a o e
      rw [ha] at z
      cases z
      exact absurd rfl (noListB_ok nl e)
  have core : ∀ H : Hp, (∀ b, b ≠ a → H b = none) → (∃ o, H a = some (.frz o (.lst (ns.map V.int)))) → HOk P w H s₁.heap →
      codeAny (model P w) callerA (.call (.ref fa) ⟨[.ref a], []⟩) (fun r s' => r = .ok (.ret (.bool true)) ∧ OldK s₁.heap s'.heap ∧ s'.os = s₁.os ∧ AllBare s'.gens) s₁ := by
    intro H hO hS hok
    have hA : ∀ b, H b ≠ none → b = a := fun b h => Decidable.byContradiction fun z => h (hO b z)
    have base_of : ∀ {b : Addr} {o : Obj}, s₁.heap.get? b = some o → H b = none → (hidT s₁.heap H).get? b = some o := fun e n => hidT_get e n
    have noA : ∀ {b : Addr} {o : Obj} {es : Array DictEntry} {ep : Nat}, s₁.heap.get? b = some o → o.data = .dict es ep → H b = none := fun {b o es ep} e d => by
      cases q : H b with
      | none => rfl
      | some u =>
        have e' : b = a := hA b (by rw [q]; simp)
        subst e'
        rw [ha] at e; cases e
        have d' : Data.seq vs.toArray _ = Data.dict es ep := d
        cases d'
    have nsK : ∀ {b : Addr} {m : Str → Option Value}, s₁.heap.Ns b m → (hidT s₁.heap H).Ns b m := fun {b m} ⟨o, es, ep, e, d, r⟩ => ⟨o, es, ep, base_of e (noA e d), d, r⟩
    have hKb : K.In (hidT s₁.heap H) := fun b o e => base_of (KX b o e) (by
      cases q : H b with
      | none => rfl
      | some u =>
        have e' : b = a := hA b (by rw [q]; simp)
        subst e'
        rw [hk] at e; cases e)
    have hM : Mod K mg (hidT s₁.heap H) := ⟨hKb, nsK hns, ⟨mb, nsK hb, hbb⟩, let ⟨mc, h1, h2⟩ := hlim; ⟨mc, nsK h1, h2⟩⟩
    have e0 : Env0 P w K mg (hidT s₁.heap H) callerA [] s₁ H := ⟨rfl, hM, fun b o e => of_hidT e, Nat.le_of_eq (hidT_size _ _), trivial, fun b hb => absurd (show b ∈ ([] : List Addr) from hb) (by simp), hok, .of_eq hg⟩
    obtain ⟨fd, F1, hbind⟩ := F _ hKb (nsK hns)
    refine codeAny_mono (F1.run callerA [] s₁ H ⟨[.ref a], []⟩ [.ref a] [.ref a] _ _ hr e0 (hbind s₁ (.ref a) KX) (.cons rfl .nil) (hsp H hO hS)) fun r s' h => ?_
    cases r with
    | error e =>
      obtain ⟨_, _, _, _, _, _, _, _, _, _, _, _, hE⟩ := h
      exact hE.elim
    | ok fl =>
      cases fl with
      | next => exact False.elim h
      | brk => exact False.elim h
      | cont => exact False.elim h
      | ret u =>
        obtain ⟨v, H', os, bare, un, hok', r', q⟩ := h
        have q' : v = .bl true := q
        subst q'
        obtain rfl : u = Value.bool true := r'
        refine ⟨rfl, OldK.of_keep fun b o e => ?_, os, bare⟩
        cases q : H b with
        | none => exact un.keep b o e q (by intro z; exact absurd (show b ∈ ([] : List Addr) from z) (by simp)) (by simp)
        | some u =>
          have hba : b = a := hA b (by rw [q]; simp)
          obtain ⟨ob, z⟩ := hS
          subst hba
          have z2 := un.frzs b ob _ z
          obtain ⟨e1, _⟩ := hok b _ z
          obtain ⟨e2, _⟩ := hok' b _ z2
          rw [e] at e1; cases e1
          exact e2
  refine core (fun b => if b = a then some (.frz { cls := .type "list", data := .seq vs.toArray } (.lst (ns.map V.int))) else none) (fun b hb => if_neg hb) ⟨_, if_pos rfl⟩ (fun b u z => ?_)
  by_cases hb : b = a
  · have z' := (if_pos hb).symm.trans z
    cases z'
    subst hb
    exact ⟨ha, by rw [List.length_map]; exact hl, vs, _, rv, ha⟩
  · have z' := (if_neg hb).symm.trans z
    cases z'
/-- a law, its end: the machine answers True at every script -/
theorem walk_ofF {l : PySem.W.OpenLaw} {n k : Nat} {q : Program} {loose : List Str} {XP : (Str → Option Value) → Heap → Prop} {YP : World → Heap → Prop} {d : DefRec} {x law : Str} {T : Tab} {fu m : Nat}
    (hn : l.most = some n) (hn2 : n ≤ sizeLine) (hdf : d.params.defaults = []) (hr : Rm (3 * m) callerA)
    (pure_law : ∀ ns : List Int, ns.length ≤ n → ∃ S', run T fu m law [.ref 0] [.ro (ns.map Am.D.int)] = .ok (.bl true) S')
    (F : ∀ (w : World) (mg : Str → Option Value) (fa : Addr) (h : Heap), YP w h → h.Ns mainGlobals mg → mg d.name = some (.ref fa) →
      ∃ (K : PySem.W.Frag) (CA : Str → Option Addr), K.In h ∧ noListB K = true ∧
        ∀ base : Heap, K.In base → base.Ns mainGlobals mg → ∃ fd : FuncData, FnA l.prog w K mg base (3 * m) fa fd [x] (spR K CA 1 (run T fu m law)) ∧ ∀ (s : Shared) (u : Value), K.In s.heap → BindsTo s fd ⟨[u], []⟩ [(x, u)]) :
    PySem.W.WalkO q loose XP YP l.row.toRowW d [] (fun f vs => PySem.call f vs) := by
  refine Att.attach_call hn hdf fun w s₀ s₁ mg mb fa o pm cd doc a vs ns G Y ho hd hcd hmg hobj hints hlen hg => ?_
  obtain ⟨K, CA, KX, nl, hF⟩ := F w mg fa _ Y G.T.g hmg
  refine law_callF KX nl G.T.g G.T.b G.T.builtins G.T.nolimit hg hobj hints (Nat.le_trans hlen hn2) hr hF fun H hO ⟨ob, hS⟩ => ?_
  obtain ⟨S', hrun⟩ := pure_law ns hlen
  have rp : Rep K CA [a] H [.ro (ns.map Am.D.int)] := by
    refine ⟨rfl, fun i j b h1 h2 => ?_, fun i b u h1 h2 => ?_⟩
    · have e1 := (List.getElem?_eq_some_iff.mp h1).1
      have e2 := (List.getElem?_eq_some_iff.mp h2).1
      simp at e1 e2
      omega
    · have e1 := (List.getElem?_eq_some_iff.mp h1).1
      simp at e1
      subst e1
      cases h1
      cases h2
      exact ⟨_, ⟨ob, hS⟩, rds_ints ns⟩
  refine ⟨rfl, [a], [.ro (ns.map Am.D.int)], [.ref 0], rp, RDs.cons (by simp only [RD]; exact ⟨a, rfl, rfl⟩) .nil, ?_⟩
  rw [hrun]
  intro ρ' v H' g r p
  exact rd_bl p
/-- the law's def, from the knot -/
theorem law_fn {P : Program} {w : World} {K : PySem.W.Frag} {mg : Str → Option Value} {base : Heap} {CA : Str → Option Addr} {T : Tab} {FA : Str → Option Addr} {blts : List Str} {fu m : Nat} {law x : Str} {d : FDef} {fa : Addr} (F : SF K mg CA T FA blts)
    (hd : T.fn.lookup law = some d) (hps : d.ps = [x]) (hsh : d.shp.lookup (1, []) = some [.pos 0]) (hfa : FA law = some fa) :
    ∃ fd : FuncData, FnA P w K mg base (3 * m) fa fd [x] (spR K CA 1 (run T fu m law)) ∧ ∀ (s : Shared) (u : Value), K.In s.heap → BindsTo s fd ⟨[u], []⟩ [(x, u)] := by
  obtain ⟨a, ha, fd, F1, sh⟩ := (knot (P := P) (w := w) (base := base) F fu m).fn law d hd
  rw [hfa] at ha
  cases ha
  rw [hps] at F1 sh
  refine ⟨fd, F1, fun s u hs => ?_⟩
  obtain ⟨gs, p, b⟩ := sh.bind 1 [] _ hsh s [u] [] hs rfl rfl
  cases p with
  | cons p0 pr =>
    cases pr
    have : [u][0]? = some _ := p0
    cases this
    exact b
end Am
/-! Aw0r: wishes over the machine's runs, raw. -/
namespace Am.Raw
open PySem Am
def EW {α : Type} (o : Out α) (Q : α → Sto → Prop) (E : D → Sto → Prop) : Prop :=
  match o with
  | .ok a S => Q a S
  | .exc e S => E e S
  | .bad => False
def OW {α : Type} (o : Option α) (Q : α → Prop) : Prop :=
  match o with
  | some a => Q a
  | none => False
def VW (o : Option (Option D)) (Q : D → Prop) : Prop :=
  match o with
  | some (some d) => Q d
  | _ => False
structure Po where
  nx : Am.Loc → Sto → Prop
  rt : D → Sto → Prop
  ex : Am.Loc → D → Sto → Prop
  bk : Am.Loc → Sto → Prop
  ct : Am.Loc → Sto → Prop
def SW (o : SOut) (P : Po) : Prop :=
  match o with
  | .nx L S => P.nx L S
  | .rt d S => P.rt d S
  | .bk L S => P.bk L S
  | .ct L S => P.ct L S
  | .exc L e S => P.ex L e S
  | .bad => False
theorem EW_ok {α : Type} {a : α} {S : Sto} {Q : α → Sto → Prop} {E : D → Sto → Prop} : EW (.ok a S) Q E = Q a S := rfl
theorem EW_exc {α : Type} {e : D} {S : Sto} {Q : α → Sto → Prop} {E : D → Sto → Prop} : EW (.exc e S : Out α) Q E = E e S := rfl
theorem EW_bad {α : Type} {Q : α → Sto → Prop} {E : D → Sto → Prop} : EW (.bad : Out α) Q E = False := rfl
theorem OW_some {α : Type} {a : α} {Q : α → Prop} : OW (some a) Q = Q a := rfl
theorem OW_none {α : Type} {Q : α → Prop} : OW (none : Option α) Q = False := rfl
theorem VW_some {d : D} {Q : D → Prop} : VW (some (some d)) Q = Q d := rfl
theorem EW_mono {α : Type} {o : Out α} {Q Q' : α → Sto → Prop} {E E' : D → Sto → Prop} (h : EW o Q E) (q : ∀ a S, Q a S → Q' a S) (e : ∀ d S, E d S → E' d S) : EW o Q' E' := by
  cases o with
  | ok a S => exact q a S h
  | exc d S => exact e d S h
  | bad => exact h
theorem EW_of {α : Type} {o : Out α} {Q Q' : α → Sto → Prop} {E' : D → Sto → Prop} (h : EW o Q fun _ _ => False) (q : ∀ a S, Q a S → Q' a S) : EW o Q' E' :=
  EW_mono h q fun _ _ h => h.elim
theorem EW_ex {α : Type} {o : Out α} {Q : α → Sto → Prop} (h : EW o Q fun _ _ => False) : ∃ a S, o = .ok a S ∧ Q a S := by
  cases o with
  | ok a S => exact ⟨a, S, rfl, h⟩
  | exc d S => exact h.elim
  | bad => exact h.elim
theorem SW_mono {o : SOut} {P P' : Po} (h : SW o P) (n : ∀ L S, P.nx L S → P'.nx L S) (r : ∀ d S, P.rt d S → P'.rt d S) (e : ∀ L d S, P.ex L d S → P'.ex L d S) (b : ∀ L S, P.bk L S → P'.bk L S) (c : ∀ L S, P.ct L S → P'.ct L S) : SW o P' := by
  cases o with
  | nx L S => exact n L S h
  | rt d S => exact r d S h
  | bk L S => exact b L S h
  | ct L S => exact c L S h
  | exc L d S => exact e L d S h
  | bad => exact h
theorem EW_bind {α β : Type} {o : Out α} {f : α → Sto → Out β} {Q : β → Sto → Prop} {E : D → Sto → Prop} : EW (o.bind f) Q E = EW o (fun a S => EW (f a S) Q E) E := by
  cases o <;> rfl
theorem EW_lift {α : Type} {S : Sto} {o : Option α} {Q : α → Sto → Prop} {E : D → Sto → Prop} : EW (lift S o) Q E = OW o fun a => Q a S := by
  cases o <;> rfl
theorem OW_map {α β : Type} {o : Option α} {f : α → β} {Q : β → Prop} : OW (o.map f) Q = OW o fun a => Q (f a) := by
  cases o <;> rfl
theorem SW_toS {α : Type} {o : Out α} {L : Am.Loc} {f : α → Sto → SOut} {P : Po} : SW (o.toS L f) P = EW o (fun a S => SW (f a S) P) (fun d S => P.ex L d S) := by
  cases o <;> rfl
theorem SW_then {o : SOut} {f : Am.Loc → Sto → SOut} {P : Po} : SW (o.then f) P = SW o ⟨fun L S => SW (f L S) P, P.rt, P.ex, P.bk, P.ct⟩ := by
  cases o <;> rfl
theorem SW_turn {o : SOut} {g : Am.Loc → Sto → SOut} {P : Po} : SW (o.turn g) P = SW o ⟨fun L S => SW (g L S) P, P.rt, P.ex, P.nx, fun L S => SW (g L S) P⟩ := by
  cases o <;> rfl
theorem SW_nx {L : Am.Loc} {S : Sto} {P : Po} : SW (.nx L S) P = P.nx L S := rfl
theorem SW_rt {d : D} {S : Sto} {P : Po} : SW (.rt d S) P = P.rt d S := rfl
theorem SW_bk {L : Am.Loc} {S : Sto} {P : Po} : SW (.bk L S) P = P.bk L S := rfl
theorem SW_ct {L : Am.Loc} {S : Sto} {P : Po} : SW (.ct L S) P = P.ct L S := rfl
theorem SW_exc {L : Am.Loc} {d : D} {S : Sto} {P : Po} : SW (.exc L d S) P = P.ex L d S := rfl
theorem EW_fin {o : SOut} {Q : D → Sto → Prop} {E : D → Sto → Prop} : EW o.fin Q E = SW o ⟨fun _ S => Q .non S, Q, fun _ d S => E d S, fun _ _ => False, fun _ _ => False⟩ := by
  cases o <;> rfl
def BW (o : Bop) (S : Sto) (x y : D) (Q : D → Sto → Prop) : Prop := EW (binD o S x y) Q fun _ _ => False
theorem EW_binD {o : Bop} {S : Sto} {x y : D} {Q : D → Sto → Prop} {E : D → Sto → Prop} : EW (binD o S x y) Q E = BW o S x y Q := by
  have : ∀ e S', binD o S x y ≠ .exc e S' := by
    intro e S' h
    unfold binD addD at h
    (repeat' split at h) <;> cases h
  unfold BW
  revert this
  generalize binD o S x y = r
  intro this
  cases r with
  | ok a S => rfl
  | exc e S' => exact absurd rfl (this e S')
  | bad => rfl
def IteW (k : Bool) (A B : Prop) : Prop := (k = true → A) ∧ (k = false → B)
theorem IteW_t {A B : Prop} : IteW true A B = A := by simp [IteW]
theorem IteW_f {A B : Prop} : IteW false A B = B := by simp [IteW]
theorem ite_W {k : Bool} {A B : Prop} : (if k = true then A else B) = IteW k A B := by
  cases k <;> simp [IteW]
theorem EW_ite {α : Type} {k : Bool} {a b : Out α} {Q : α → Sto → Prop} {E : D → Sto → Prop} : EW (if k = true then a else b) Q E = IteW k (EW a Q E) (EW b Q E) := by
  cases k <;> simp [IteW]
theorem SW_ite {k : Bool} {a b : SOut} {P : Po} : SW (if k = true then a else b) P = IteW k (SW a P) (SW b P) := by
  cases k <;> simp [IteW]
def CoW (c : Prop) (Q : Prop) : Prop := c ∧ Q
theorem EW_if {α : Type} {c : Prop} [Decidable c] {a : Out α} {Q : α → Sto → Prop} {E : D → Sto → Prop} : EW (if c then a else .bad) Q E = (c ∧ EW a Q E) := by
  by_cases h : c <;> simp [h, EW]
section
variable {T : Tab} {R : Str → List D → Sto → Out D} {L : Am.Loc} {S : Sto} {Q : D → Sto → Prop} {E : D → Sto → Prop}
theorem W_var {i : Nat} : EW (evE T R (.var i) L S) Q E = VW L[i]? fun d => Q d S := by
  unfold evE
  cases h : L[i]? with
  | none => rfl
  | some o => cases o <;> rfl
theorem W_con {d : D} : EW (evE T R (.con d) L S) Q E = Q d S := by unfold evE; rfl
theorem W_glob {x : Str} : EW (evE T R (.glob x) L S) Q E = OW (T.con.lookup x) fun d => Q d S := by unfold evE; exact EW_lift
theorem W_bin {o : Bop} {a b : X} : EW (evE T R (.bin o a b) L S) Q E = EW (evE T R a L S) (fun x S1 => EW (evE T R b L S1) (fun y S2 => BW o S2 x y Q) E) E := by
  conv => lhs; unfold evE
  simp only [EW_bind, EW_binD]
theorem W_neg {a : X} : EW (evE T R (.neg a) L S) Q E = EW (evE T R a L S) (fun x S1 => match x with
    | .int i => Q (.int (-i)) S1
    | _ => False) E := by
  conv => lhs; unfold evE
  rw [EW_bind]
  congr 1
  funext x S1
  cases x <;> rfl
theorem W_cmp {o : Cop} {a b : X} : EW (evE T R (.cmp o a b) L S) Q E = EW (evE T R a L S) (fun x S1 => EW (evE T R b L S1) (fun y S2 => OW (cmpD o S2 x y) fun k => Q (.bl k) S2) E) E := by
  conv => lhs; unfold evE
  simp only [EW_bind, EW_lift, OW_map]
theorem W_chain {o o' : Cop} {a b c : X} : EW (evE T R (.chain o o' a b c) L S) Q E = EW (evE T R a L S) (fun x S1 => EW (evE T R b L S1) (fun y S2 => OW (cmpD o S2 x y) fun k => IteW k (EW (evE T R c L S2) (fun z S3 => OW (cmpD o' S3 y z) fun k => Q (.bl k) S3) E) (Q (.bl false) S2)) E) E := by
  conv => lhs; unfold evE
  simp only [EW_bind, EW_lift, OW_map, EW_ite, EW_ok]
theorem W_and {a b : X} : EW (evE T R (.and a b) L S) Q E = EW (evE T R a L S) (fun x S1 => OW (truthy S1 x) fun k => IteW k (EW (evE T R b L S1) Q E) (Q x S1)) E := by
  conv => lhs; unfold evE
  simp only [EW_bind, EW_lift, EW_ite, EW_ok]
theorem W_or {a b : X} : EW (evE T R (.or a b) L S) Q E = EW (evE T R a L S) (fun x S1 => OW (truthy S1 x) fun k => IteW k (Q x S1) (EW (evE T R b L S1) Q E)) E := by
  conv => lhs; unfold evE
  simp only [EW_bind, EW_lift, EW_ite, EW_ok]
theorem W_not {a : X} : EW (evE T R (.not a) L S) Q E = EW (evE T R a L S) (fun x S1 => OW (truthy S1 x) fun k => Q (.bl (!k)) S1) E := by
  conv => lhs; unfold evE
  simp only [EW_bind, EW_lift, OW_map]
theorem W_ite {c a b : X} : EW (evE T R (.ite c a b) L S) Q E = EW (evE T R c L S) (fun x S1 => OW (truthy S1 x) fun k => IteW k (EW (evE T R a L S1) Q E) (EW (evE T R b L S1) Q E)) E := by
  conv => lhs; unfold evE
  simp only [EW_bind, EW_lift, EW_ite, EW_ok]
theorem W_tup {es : Xs} : EW (evE T R (.tup es) L S) Q E = EW (evs T R es L S) (fun ds S1 => ds.length ≤ lim ∧ Q (.tup ds) S1) E := by
  conv => lhs; unfold evE
  simp only [EW_bind, EW_if, EW_ok]
theorem W_lst {es : Xs} : EW (evE T R (.lst es) L S) Q E = EW (evs T R es L S) (fun ds S1 => ds.length ≤ lim ∧ Q (.ref S1.length) (S1 ++ [.lst ds])) E := by
  conv => lhs; unfold evE
  simp only [EW_bind, EW_if, EW_ok]
theorem W_dic0 : EW (evE T R .dic0 L S) Q E = Q (.ref S.length) (S ++ [.dic []]) := by unfold evE; rfl
theorem W_dic1 {k v : X} : EW (evE T R (.dic1 k v) L S) Q E = EW (evE T R k L (S ++ [.dic []])) (fun a S1 => EW (evE T R v L S1) (fun b S2 => dicAt S2 S.length = some [] ∧ (keyD a).isSome = true ∧ Q (.ref S.length) (S2.set S.length (.dic [(a, b)]))) E) E := by
  conv => lhs; unfold evE
  simp only [EW_bind]
  congr 1
  funext a S1
  congr 1
  funext b S2
  cases h : dicAt S2 S.length with
  | none => simp [EW]
  | some kv => cases kv with
    | nil => cases h2 : keyD a <;> simp [EW]
    | cons p r => simp [EW]
theorem W_ix {a b : X} : EW (evE T R (.ix a b) L S) Q E = EW (evE T R a L S) (fun x S1 => EW (evE T R b L S1) (fun y S2 => OW (ixD S2 x y) fun d => Q d S2) E) E := by
  conv => lhs; unfold evE
  simp only [EW_bind, EW_lift]
theorem W_sl {a : X} {lo hi : Ox} : EW (evE T R (.sl a lo hi) L S) Q E = EW (evE T R a L S) (fun x S1 => EW (evO T R lo L S1) (fun l S2 => EW (evO T R hi L S2) (fun h S3 => EW (slD S3 x l h) Q E) E) E) E := by
  conv => lhs; unfold evE
  simp only [EW_bind]
theorem W_call {f : Str} {es : Xs} {kn : List Str} {ks : Xs} : EW (evE T R (.call f es kn ks) L S) Q E = OW (T.fn.lookup f) fun d => EW (evs T R es L S) (fun as S1 => EW (evs T R ks L S1) (fun ws S2 => OW (d.shp.bind as kn ws) fun vs => EW (R f vs S2) Q E) E) E := by
  conv => lhs; unfold evE
  cases h : T.fn.lookup f with
  | none => rfl
  | some d =>
    simp only [EW_bind, OW_some]
    congr 1; funext as S1; congr 1; funext ws S2
    cases d.shp.bind as kn ws <;> rfl
theorem W_meth {o : X} {m : Str} {es : Xs} {kn : List Str} {ks : Xs} : EW (evE T R (.meth o m es kn ks) L S) Q E = EW (evE T R o L S) (fun x S0 => OW (methD T S0 x m) fun p => EW (evs T R es L S0) (fun as S1 => EW (evs T R ks L S1) (fun ws S2 => OW (p.2.shp.bind (x :: as) kn ws) fun vs => EW (R p.1 vs S2) Q E) E) E) E := by
  conv => lhs; unfold evE
  simp only [EW_bind]
  congr 1; funext x S0
  cases h : methD T S0 x m with
  | none => rfl
  | some p =>
    simp only [EW_bind, OW_some]
    congr 1; funext as S1; congr 1; funext ws S2
    cases p.2.shp.bind (x :: as) kn ws <;> rfl
def MkW (mk : Option ((List Str × Shp) ⊕ (Str × FDef))) (A : List Str → Shp → Prop) (B : Str → FDef → Prop) : Prop :=
  match mk with
  | some (.inl (ns, sh)) => A ns sh
  | some (.inr (g, d)) => B g d
  | none => False
theorem MkW_l {ns : List Str} {sh : Shp} {A : List Str → Shp → Prop} {B : Str → FDef → Prop} : MkW (some (.inl (ns, sh))) A B = A ns sh := rfl
theorem MkW_r {g : Str} {d : FDef} {A : List Str → Shp → Prop} {B : Str → FDef → Prop} : MkW (some (.inr (g, d))) A B = B g d := rfl
theorem W_mk {C : Str} {es : Xs} {kn : List Str} {ks : Xs} : EW (evE T R (.mk C es kn ks) L S) Q E = MkW (mkD T C)
    (fun ns sh => EW (evs T R es L S) (fun as S1 => EW (evs T R ks L S1) (fun ws S2 => OW (sh.bind as kn ws) fun vs => vs.length = ns.length ∧ Q (.exc C ns vs) S2) E) E)
    (fun g d => EW (evs T R es L S) (fun as S1 => EW (evs T R ks L S1) (fun ws S2 => OW (d.shp.bind (.ref S2.length :: as) kn ws) fun vs => EW (R g vs (S2 ++ [.ins C []])) (fun r S3 => r = .non ∧ Q (.ref S2.length) S3) E) E) E) := by
  conv => lhs; unfold evE
  cases h : mkD T C with
  | none => rfl
  | some m => cases m with
    | inl p =>
      obtain ⟨ns, sh⟩ := p
      simp only [EW_bind, MkW_l]
      congr 1; funext as S1; congr 1; funext ws S2
      cases sh.bind as kn ws with
      | none => rfl
      | some vs => simp only [OW_some, EW_if, EW_ok]
    | inr p =>
      obtain ⟨g, d⟩ := p
      simp only [EW_bind, MkW_r]
      congr 1; funext as S1; congr 1; funext ws S2
      cases d.shp.bind (.ref S2.length :: as) kn ws with
      | none => rfl
      | some vs =>
        simp only [OW_some, EW_bind]
        congr 1; funext r S3
        cases r <;> simp [EW]
theorem W_blt {f : Blt} {es : Xs} : EW (evE T R (.blt f es) L S) Q E = EW (evs T R es L S) (fun as S1 => EW (bltD f S1 as) Q E) E := by
  conv => lhs; unfold evE
  simp only [EW_bind]
theorem W_isi {a : X} {cs : List Str} : EW (evE T R (.isi a cs) L S) Q E = EW (evE T R a L S) (fun x S1 => OW (isiD T S1 x cs) fun k => Q (.bl k) S1) E := by
  conv => lhs; unfold evE
  simp only [EW_bind, EW_lift, OW_map]
def AtW (T : Tab) (R : Str → List D → Sto → Out D) (x : D) (f : Str) (S : Sto) (Q : D → Sto → Prop) : Prop :=
  match propD T S x f with
  | some g => OW (T.fn.lookup g) fun d => OW (d.shp.bind [x] [] []) fun vs => EW (R g vs S) Q fun _ _ => False
  | none => OW (attrD T S x f) fun d => Q d S
theorem AtW_none {x : D} {f : Str} (h : propD T S x f = none) : AtW T R x f S Q = OW (attrD T S x f) fun d => Q d S := by unfold AtW; rw [h]
theorem AtW_some {x : D} {f g : Str} (h : propD T S x f = some g) : AtW T R x f S Q = OW (T.fn.lookup g) fun d => OW (d.shp.bind [x] [] []) fun vs => EW (R g vs S) Q fun _ _ => False := by unfold AtW; rw [h]
theorem W_attr {a : X} {f : Str} : EW (evE T R (.attr a f) L S) Q E = EW (evE T R a L S) (fun x S1 => AtW T R x f S1 Q) E := by
  conv => lhs; unfold evE
  simp only [EW_bind]
  congr 1; funext x S1
  unfold AtW
  cases propD T S1 x f with
  | none => exact EW_lift
  | some g =>
    dsimp only
    cases T.fn.lookup g with
    | none => rfl
    | some d =>
      dsimp only [OW_some]
      cases d.shp.bind [x] [] [] with
      | none => rfl
      | some vs =>
        dsimp only [OW_some]
        cases R g vs S1 <;> rfl
theorem W_comp {e : X} {tg : Tg} {it : Itx} {c : Xs} {own : List Nat} : EW (evE T R (.comp e tg it c own) L S) Q E = EW (evI T R it L S) (fun v S1 => EW (compL v tg S1.length (fun L S => evT T R c L S) (fun L S => evE T R e L S) (v.size S1 + 1) 0 (wipeL L own) (S1 ++ [.lst []])) Q E) E := by
  conv => lhs; unfold evE
  simp only [EW_bind]
theorem W_nil {Q : List D → Sto → Prop} : EW (evs T R .nil L S) Q E = Q [] S := by unfold evs; rfl
theorem W_cons {e : X} {es : Xs} {Q : List D → Sto → Prop} : EW (evs T R (.cons e es) L S) Q E = EW (evE T R e L S) (fun d S1 => EW (evs T R es L S1) (fun ds S2 => Q (d :: ds) S2) E) E := by
  conv => lhs; unfold evs
  simp only [EW_bind, EW_ok]
theorem W_T0 {Q : Bool → Sto → Prop} : EW (evT T R .nil L S) Q E = Q true S := by unfold evT; rfl
theorem W_T1 {e : X} {es : Xs} {Q : Bool → Sto → Prop} : EW (evT T R (.cons e es) L S) Q E = EW (evE T R e L S) (fun d S1 => OW (truthy S1 d) fun k => Q k S1) E := by
  conv => lhs; unfold evT
  simp only [EW_bind, EW_lift]
theorem W_no {Q : Option Int → Sto → Prop} : EW (evO T R .no L S) Q E = Q none S := by unfold evO; rfl
theorem W_so {e : X} {Q : Option Int → Sto → Prop} : EW (evO T R (.so e) L S) Q E = EW (evE T R e L S) (fun d S1 => match d with
    | .int i => Q (some i) S1
    | _ => False) E := by
  conv => lhs; unfold evO
  simp only [EW_bind]
  congr 1; funext d S1
  cases d <;> rfl
/-- what a walk needs -/
def SeqW (S : Sto) (d : D) (Q : Itv → Sto → Prop) : Prop :=
  match d with
  | .tup ds => Q (.fix ds) S
  | .str x => Q (.fix (x.cps.toList.map fun c => .str ⟨#[c]⟩)) S
  | .ref r => (lstAt S r).isSome = true ∧ Q (.lst r) S
  | _ => False
theorem W_seq {e : X} {Q : Itv → Sto → Prop} : EW (evI T R (.seq e) L S) Q E = EW (evE T R e L S) (fun d S1 => SeqW S1 d Q) E := by
  conv => lhs; unfold evI
  simp only [EW_bind]
  congr 1; funext d S1
  cases d with
  | ref r =>
    unfold SeqW
    dsimp only
    cases lstAt S1 r <;> simp [EW]
  | _ => rfl
theorem W_rng1 {e : X} {Q : Itv → Sto → Prop} : EW (evI T R (.rng1 e) L S) Q E = EW (evE T R e L S) (fun d S1 => match d with
    | .int j => rngOk 0 j = true ∧ Q (.fix (rngD 0 j)) S1
    | _ => False) E := by
  conv => lhs; unfold evI
  simp only [EW_bind]
  congr 1; funext d S1
  cases d <;> first | rfl | (dsimp only; rw [EW_if]; rfl)
theorem W_rng2 {e e' : X} {Q : Itv → Sto → Prop} : EW (evI T R (.rng2 e e') L S) Q E = EW (evE T R e L S) (fun d S1 => EW (evE T R e' L S1) (fun d' S2 => match d, d' with
    | .int i, .int j => rngOk i j = true ∧ Q (.fix (rngD i j)) S2
    | _, _ => False) E) E := by
  conv => lhs; unfold evI
  simp only [EW_bind]
  congr 1; funext d S1
  congr 1; funext d' S2
  cases d <;> cases d' <;> first | rfl | (dsimp only; rw [EW_if]; rfl)
end
section
variable {T : Tab} {R : Str → List D → Sto → Out D} {fu : Nat} {L : Am.Loc} {S : Sto} {P : Po}
theorem Z_nil : SW (evSs T R fu .nil L S) P = P.nx L S := by unfold evSs; rfl
theorem Z_cons {s : Am.S} {r : Ss} : SW (evSs T R fu (.cons s r) L S) P = SW (evS T R fu s L S) ⟨fun L1 S1 => SW (evSs T R fu r L1 S1) P, P.rt, P.ex, P.bk, P.ct⟩ := by
  conv => lhs; unfold evSs
  exact SW_then
theorem Z_exp {e : X} : SW (evS T R fu (.exp e) L S) P = EW (evE T R e L S) (fun _ S1 => P.nx L S1) (fun d S1 => P.ex L d S1) := by
  conv => lhs; unfold evS
  exact SW_toS
theorem Z_set {i : Nat} {e : X} : SW (evS T R fu (.set i e) L S) P = EW (evE T R e L S) (fun d S1 => P.nx (L.set i (some d)) S1) (fun d S1 => P.ex L d S1) := by
  conv => lhs; unfold evS
  exact SW_toS
theorem Z_unpack {g : Tg} {e : X} : SW (evS T R fu (.unpack g e) L S) P = EW (evE T R e L S) (fun d S1 => OW (setTg g d L) fun L1 => P.nx L1 S1) (fun d S1 => P.ex L d S1) := by
  conv => lhs; unfold evS
  rw [SW_toS]
  congr 1; funext d S1
  cases setTg g d L <;> rfl
theorem Z_setat {o : X} {f : Str} {e : X} : SW (evS T R fu (.setat o f e) L S) P = EW (evE T R e L S) (fun d S1 => EW (evE T R o L S1) (fun a S2 => OW (setatD T S2 a f d) fun S3 => P.nx L S3) (fun d S1 => P.ex L d S1)) (fun d S1 => P.ex L d S1) := by
  conv => lhs; unfold evS
  simp only [SW_toS]
  congr 1; funext d S1
  congr 1; funext a S2
  cases setatD T S2 a f d <;> rfl
theorem Z_setix {o i e : X} : SW (evS T R fu (.setix o i e) L S) P = EW (evE T R e L S) (fun d S1 => EW (evE T R o L S1) (fun a S2 => EW (evE T R i L S2) (fun k S3 => OW (setixD S3 a k d) fun S4 => P.nx L S4) (fun d S1 => P.ex L d S1)) (fun d S1 => P.ex L d S1)) (fun d S1 => P.ex L d S1) := by
  conv => lhs; unfold evS
  simp only [SW_toS]
  congr 1; funext d S1
  congr 1; funext a S2
  congr 1; funext k S3
  cases setixD S3 a k d <;> rfl
theorem Z_ret {e : X} : SW (evS T R fu (.ret e) L S) P = EW (evE T R e L S) P.rt (fun d S1 => P.ex L d S1) := by
  conv => lhs; unfold evS
  exact SW_toS
theorem Z_retN : SW (evS T R fu .retN L S) P = P.rt .non S := by unfold evS; rfl
theorem Z_raise {e : X} : SW (evS T R fu (.raise e) L S) P = EW (evE T R e L S) (fun d S1 => P.ex L d S1) (fun d S1 => P.ex L d S1) := by
  conv => lhs; unfold evS
  exact SW_toS
theorem Z_brk : SW (evS T R fu .brk L S) P = P.bk L S := by unfold evS; rfl
theorem Z_cont : SW (evS T R fu .cont L S) P = P.ct L S := by unfold evS; rfl
theorem Z_pass : SW (evS T R fu .pass L S) P = P.nx L S := by unfold evS; rfl
theorem Z_ite {c : X} {a b : Ss} : SW (evS T R fu (.ite c a b) L S) P = EW (evE T R c L S) (fun x S1 => OW (truthy S1 x) fun k => IteW k (SW (evSs T R fu a L S1) P) (SW (evSs T R fu b L S1) P)) (fun d S1 => P.ex L d S1) := by
  conv => lhs; unfold evS
  simp only [SW_toS, EW_lift, SW_ite]
theorem Z_for {tg : Tg} {it : Itx} {b : Ss} : SW (evS T R fu (.for_ tg it b) L S) P = EW (evI T R it L S) (fun v S1 => SW (forL v tg (fun L S => evSs T R fu b L S) (v.size S1 + 1) 0 L S1) P) (fun d S1 => P.ex L d S1) := by
  conv => lhs; unfold evS
  exact SW_toS
theorem Z_whl {c : X} {b : Ss} : SW (evS T R fu (.whl c b) L S) P = SW (whlL (fun L S => (evE T R c L S).bind fun x S1 => lift S1 (truthy S1 x)) (fun L S => evSs T R fu b L S) fu L S) P := by
  conv => lhs; unfold evS
end
/-- a def's run -/
theorem run_W {T : Tab} {fu n : Nat} {f : Str} {vs : List D} {S : Sto} {d : FDef} {Q : D → Sto → Prop} {E : D → Sto → Prop} (hf : T.fn.lookup f = some d) (hl : vs.length = d.ps.length)
    (h : SW (evSs T (run T fu n) fu d.body (startL d.n vs) S) ⟨fun _ S => Q .non S, Q, fun _ d S => E d S, fun _ _ => False, fun _ _ => False⟩) : EW (run T fu (n + 1) f vs S) Q E := by
  unfold run
  rw [hf]
  simp only [if_pos hl]
  rw [EW_fin]
  exact h
section
variable {T : Tab} {R : Str → List D → Sto → Out D}
theorem W_test {c : X} {L : Am.Loc} {S : Sto} {Q : Bool → Sto → Prop} {E : D → Sto → Prop} : EW ((evE T R c L S).bind fun x S1 => lift S1 (truthy S1 x)) Q E = EW (evE T R c L S) (fun x S1 => OW (truthy S1 x) fun k => Q k S1) E := by
  simp only [EW_bind, EW_lift]
end
end Am.Raw
/-! Aw0: wishes over the machine's runs, by rewriting; a wish itself is left alone while one rewrites. -/
namespace Am
open PySem
abbrev Po := Raw.Po
/-- makes rewriting leave a wish alone -/
structure Dm {β : Sort u} (b : β) : Type where mk ::
def EW {α : Type} (o : Out α) (Q : α → Sto → Prop) (E : D → Sto → Prop) (_ : Dm (Q, E) := .mk) : Prop := Raw.EW o Q E
def OW {α : Type} (o : Option α) (Q : α → Prop) (_ : Dm Q := .mk) : Prop := Raw.OW o Q
def VW (o : Option (Option D)) (Q : D → Prop) (_ : Dm Q := .mk) : Prop := Raw.VW o Q
def SW (o : SOut) (P : Po) (_ : Dm P := .mk) : Prop := Raw.SW o P
theorem EW_ok {α : Type} {a : α} {S : Sto} {Q : α → Sto → Prop} {E : D → Sto → Prop} : EW (.ok a S) Q E = Q a S := Raw.EW_ok
theorem EW_exc {α : Type} {e : D} {S : Sto} {Q : α → Sto → Prop} {E : D → Sto → Prop} : EW (.exc e S : Out α) Q E = E e S := Raw.EW_exc
theorem EW_bad {α : Type} {Q : α → Sto → Prop} {E : D → Sto → Prop} : EW (.bad : Out α) Q E = False := Raw.EW_bad
theorem OW_some {α : Type} {a : α} {Q : α → Prop} : OW (some a) Q = Q a := Raw.OW_some
theorem OW_none {α : Type} {Q : α → Prop} : OW (none : Option α) Q = False := Raw.OW_none
theorem VW_some {d : D} {Q : D → Prop} : VW (some (some d)) Q = Q d := Raw.VW_some
theorem EW_mono {α : Type} {o : Out α} {Q Q' : α → Sto → Prop} {E E' : D → Sto → Prop} (h : EW o Q E) (q : ∀ a S, Q a S → Q' a S) (e : ∀ d S, E d S → E' d S) : EW o Q' E' := Raw.EW_mono h q e
theorem EW_of {α : Type} {o : Out α} {Q Q' : α → Sto → Prop} {E' : D → Sto → Prop} (h : EW o Q fun _ _ => False) (q : ∀ a S, Q a S → Q' a S) : EW o Q' E' := Raw.EW_of h q
theorem EW_ex {α : Type} {o : Out α} {Q : α → Sto → Prop} (h : EW o Q fun _ _ => False) : ∃ a S, o = .ok a S ∧ Q a S := Raw.EW_ex h
theorem SW_mono {o : SOut} {P P' : Po} (h : SW o P) (n : ∀ L S, P.nx L S → P'.nx L S) (r : ∀ d S, P.rt d S → P'.rt d S) (e : ∀ L d S, P.ex L d S → P'.ex L d S) (b : ∀ L S, P.bk L S → P'.bk L S) (c : ∀ L S, P.ct L S → P'.ct L S) : SW o P' := Raw.SW_mono h n r e b c
theorem EW_bind {α β : Type} {o : Out α} {f : α → Sto → Out β} {Q : β → Sto → Prop} {E : D → Sto → Prop} : EW (o.bind f) Q E = EW o (fun a S => EW (f a S) Q E) E := Raw.EW_bind
theorem EW_lift {α : Type} {S : Sto} {o : Option α} {Q : α → Sto → Prop} {E : D → Sto → Prop} : EW (lift S o) Q E = OW o fun a => Q a S := Raw.EW_lift
theorem OW_map {α β : Type} {o : Option α} {f : α → β} {Q : β → Prop} : OW (o.map f) Q = OW o fun a => Q (f a) := Raw.OW_map
theorem SW_toS {α : Type} {o : Out α} {L : Am.Loc} {f : α → Sto → SOut} {P : Po} : SW (o.toS L f) P = EW o (fun a S => SW (f a S) P) (fun d S => P.ex L d S) := Raw.SW_toS
theorem SW_then {o : SOut} {f : Am.Loc → Sto → SOut} {P : Po} : SW (o.then f) P = SW o ⟨fun L S => SW (f L S) P, P.rt, P.ex, P.bk, P.ct⟩ := Raw.SW_then
theorem SW_turn {o : SOut} {g : Am.Loc → Sto → SOut} {P : Po} : SW (o.turn g) P = SW o ⟨fun L S => SW (g L S) P, P.rt, P.ex, P.nx, fun L S => SW (g L S) P⟩ := Raw.SW_turn
theorem SW_nx {L : Am.Loc} {S : Sto} {P : Po} : SW (.nx L S) P = P.nx L S := Raw.SW_nx
theorem SW_rt {d : D} {S : Sto} {P : Po} : SW (.rt d S) P = P.rt d S := Raw.SW_rt
theorem SW_bk {L : Am.Loc} {S : Sto} {P : Po} : SW (.bk L S) P = P.bk L S := Raw.SW_bk
theorem SW_ct {L : Am.Loc} {S : Sto} {P : Po} : SW (.ct L S) P = P.ct L S := Raw.SW_ct
theorem SW_exc {L : Am.Loc} {d : D} {S : Sto} {P : Po} : SW (.exc L d S) P = P.ex L d S := Raw.SW_exc
theorem EW_fin {o : SOut} {Q : D → Sto → Prop} {E : D → Sto → Prop} : EW o.fin Q E = SW o ⟨fun _ S => Q .non S, Q, fun _ d S => E d S, fun _ _ => False, fun _ _ => False⟩ := Raw.EW_fin
def BW (o : Bop) (S : Sto) (x y : D) (Q : D → Sto → Prop) (_ : Dm Q := .mk) : Prop := Raw.BW o S x y Q
theorem EW_binD {o : Bop} {S : Sto} {x y : D} {Q : D → Sto → Prop} {E : D → Sto → Prop} : EW (binD o S x y) Q E = BW o S x y Q := Raw.EW_binD
def IteW (k : Bool) (A B : Prop) : Prop := Raw.IteW k A B
theorem IteW_t {A B : Prop} : IteW true A B = A := Raw.IteW_t
theorem IteW_f {A B : Prop} : IteW false A B = B := Raw.IteW_f
theorem ite_W {k : Bool} {A B : Prop} : (if k = true then A else B) = IteW k A B := Raw.ite_W
theorem EW_ite {α : Type} {k : Bool} {a b : Out α} {Q : α → Sto → Prop} {E : D → Sto → Prop} : EW (if k = true then a else b) Q E = IteW k (EW a Q E) (EW b Q E) := Raw.EW_ite
theorem SW_ite {k : Bool} {a b : SOut} {P : Po} : SW (if k = true then a else b) P = IteW k (SW a P) (SW b P) := Raw.SW_ite
theorem EW_if {α : Type} {c : Prop} [Decidable c] {a : Out α} {Q : α → Sto → Prop} {E : D → Sto → Prop} : EW (if c then a else .bad) Q E = (c ∧ EW a Q E) := Raw.EW_if
section
variable {T : Tab} {R : Str → List D → Sto → Out D} {L : Am.Loc} {S : Sto} {Q : D → Sto → Prop} {E : D → Sto → Prop}
theorem W_var {i : Nat} : EW (evE T R (.var i) L S) Q E = VW L[i]? fun d => Q d S := Raw.W_var
theorem W_con {d : D} : EW (evE T R (.con d) L S) Q E = Q d S := Raw.W_con
theorem W_glob {x : Str} : EW (evE T R (.glob x) L S) Q E = OW (T.con.lookup x) fun d => Q d S := Raw.W_glob
theorem W_bin {o : Bop} {a b : X} : EW (evE T R (.bin o a b) L S) Q E = EW (evE T R a L S) (fun x S1 => EW (evE T R b L S1) (fun y S2 => BW o S2 x y Q) E) E := Raw.W_bin
theorem W_neg {a : X} : EW (evE T R (.neg a) L S) Q E = EW (evE T R a L S) (fun x S1 => match x with
    | .int i => Q (.int (-i)) S1
    | _ => False) E := Raw.W_neg
theorem W_cmp {o : Cop} {a b : X} : EW (evE T R (.cmp o a b) L S) Q E = EW (evE T R a L S) (fun x S1 => EW (evE T R b L S1) (fun y S2 => OW (cmpD o S2 x y) fun k => Q (.bl k) S2) E) E := Raw.W_cmp
theorem W_chain {o o' : Cop} {a b c : X} : EW (evE T R (.chain o o' a b c) L S) Q E = EW (evE T R a L S) (fun x S1 => EW (evE T R b L S1) (fun y S2 => OW (cmpD o S2 x y) fun k => IteW k (EW (evE T R c L S2) (fun z S3 => OW (cmpD o' S3 y z) fun k => Q (.bl k) S3) E) (Q (.bl false) S2)) E) E := Raw.W_chain
theorem W_and {a b : X} : EW (evE T R (.and a b) L S) Q E = EW (evE T R a L S) (fun x S1 => OW (truthy S1 x) fun k => IteW k (EW (evE T R b L S1) Q E) (Q x S1)) E := Raw.W_and
theorem W_or {a b : X} : EW (evE T R (.or a b) L S) Q E = EW (evE T R a L S) (fun x S1 => OW (truthy S1 x) fun k => IteW k (Q x S1) (EW (evE T R b L S1) Q E)) E := Raw.W_or
theorem W_not {a : X} : EW (evE T R (.not a) L S) Q E = EW (evE T R a L S) (fun x S1 => OW (truthy S1 x) fun k => Q (.bl (!k)) S1) E := Raw.W_not
theorem W_ite {c a b : X} : EW (evE T R (.ite c a b) L S) Q E = EW (evE T R c L S) (fun x S1 => OW (truthy S1 x) fun k => IteW k (EW (evE T R a L S1) Q E) (EW (evE T R b L S1) Q E)) E := Raw.W_ite
theorem W_tup {es : Xs} : EW (evE T R (.tup es) L S) Q E = EW (evs T R es L S) (fun ds S1 => ds.length ≤ lim ∧ Q (.tup ds) S1) E := Raw.W_tup
theorem W_lst {es : Xs} : EW (evE T R (.lst es) L S) Q E = EW (evs T R es L S) (fun ds S1 => ds.length ≤ lim ∧ Q (.ref S1.length) (S1 ++ [.lst ds])) E := Raw.W_lst
theorem W_dic0 : EW (evE T R .dic0 L S) Q E = Q (.ref S.length) (S ++ [.dic []]) := Raw.W_dic0
theorem W_dic1 {k v : X} : EW (evE T R (.dic1 k v) L S) Q E = EW (evE T R k L (S ++ [.dic []])) (fun a S1 => EW (evE T R v L S1) (fun b S2 => dicAt S2 S.length = some [] ∧ (keyD a).isSome = true ∧ Q (.ref S.length) (S2.set S.length (.dic [(a, b)]))) E) E := Raw.W_dic1
theorem W_ix {a b : X} : EW (evE T R (.ix a b) L S) Q E = EW (evE T R a L S) (fun x S1 => EW (evE T R b L S1) (fun y S2 => OW (ixD S2 x y) fun d => Q d S2) E) E := Raw.W_ix
theorem W_sl {a : X} {lo hi : Ox} : EW (evE T R (.sl a lo hi) L S) Q E = EW (evE T R a L S) (fun x S1 => EW (evO T R lo L S1) (fun l S2 => EW (evO T R hi L S2) (fun h S3 => EW (slD S3 x l h) Q E) E) E) E := Raw.W_sl
theorem W_call {f : Str} {es : Xs} {kn : List Str} {ks : Xs} : EW (evE T R (.call f es kn ks) L S) Q E = OW (T.fn.lookup f) fun d => EW (evs T R es L S) (fun as S1 => EW (evs T R ks L S1) (fun ws S2 => OW (d.shp.bind as kn ws) fun vs => EW (R f vs S2) Q E) E) E := Raw.W_call
theorem W_meth {o : X} {m : Str} {es : Xs} {kn : List Str} {ks : Xs} : EW (evE T R (.meth o m es kn ks) L S) Q E = EW (evE T R o L S) (fun x S0 => OW (methD T S0 x m) fun p => EW (evs T R es L S0) (fun as S1 => EW (evs T R ks L S1) (fun ws S2 => OW (p.2.shp.bind (x :: as) kn ws) fun vs => EW (R p.1 vs S2) Q E) E) E) E := Raw.W_meth
def MkW (mk : Option ((List Str × Shp) ⊕ (Str × FDef))) (A : List Str → Shp → Prop) (B : Str → FDef → Prop) (_ : Dm (A, B) := .mk) : Prop := Raw.MkW mk A B
theorem MkW_l {ns : List Str} {sh : Shp} {A : List Str → Shp → Prop} {B : Str → FDef → Prop} : MkW (some (.inl (ns, sh))) A B = A ns sh := Raw.MkW_l
theorem MkW_r {g : Str} {d : FDef} {A : List Str → Shp → Prop} {B : Str → FDef → Prop} : MkW (some (.inr (g, d))) A B = B g d := Raw.MkW_r
theorem W_mk {C : Str} {es : Xs} {kn : List Str} {ks : Xs} : EW (evE T R (.mk C es kn ks) L S) Q E = MkW (mkD T C)
    (fun ns sh => EW (evs T R es L S) (fun as S1 => EW (evs T R ks L S1) (fun ws S2 => OW (sh.bind as kn ws) fun vs => vs.length = ns.length ∧ Q (.exc C ns vs) S2) E) E)
    (fun g d => EW (evs T R es L S) (fun as S1 => EW (evs T R ks L S1) (fun ws S2 => OW (d.shp.bind (.ref S2.length :: as) kn ws) fun vs => EW (R g vs (S2 ++ [.ins C []])) (fun r S3 => r = .non ∧ Q (.ref S2.length) S3) E) E) E) := Raw.W_mk
theorem W_blt {f : Blt} {es : Xs} : EW (evE T R (.blt f es) L S) Q E = EW (evs T R es L S) (fun as S1 => EW (bltD f S1 as) Q E) E := Raw.W_blt
theorem W_isi {a : X} {cs : List Str} : EW (evE T R (.isi a cs) L S) Q E = EW (evE T R a L S) (fun x S1 => OW (isiD T S1 x cs) fun k => Q (.bl k) S1) E := Raw.W_isi
def AtW (T : Tab) (R : Str → List D → Sto → Out D) (x : D) (f : Str) (S : Sto) (Q : D → Sto → Prop) (_ : Dm Q := .mk) : Prop := Raw.AtW T R x f S Q
theorem AtW_none {x : D} {f : Str} (h : propD T S x f = none) : AtW T R x f S Q = OW (attrD T S x f) fun d => Q d S := Raw.AtW_none h
theorem AtW_some {x : D} {f g : Str} (h : propD T S x f = some g) : AtW T R x f S Q = OW (T.fn.lookup g) fun d => OW (d.shp.bind [x] [] []) fun vs => EW (R g vs S) Q fun _ _ => False := Raw.AtW_some h
theorem W_attr {a : X} {f : Str} : EW (evE T R (.attr a f) L S) Q E = EW (evE T R a L S) (fun x S1 => AtW T R x f S1 Q) E := Raw.W_attr
theorem W_comp {e : X} {tg : Tg} {it : Itx} {c : Xs} {own : List Nat} : EW (evE T R (.comp e tg it c own) L S) Q E = EW (evI T R it L S) (fun v S1 => EW (compL v tg S1.length (fun L S => evT T R c L S) (fun L S => evE T R e L S) (v.size S1 + 1) 0 (wipeL L own) (S1 ++ [.lst []])) Q E) E := Raw.W_comp
theorem W_nil {Q : List D → Sto → Prop} : EW (evs T R .nil L S) Q E = Q [] S := Raw.W_nil
theorem W_cons {e : X} {es : Xs} {Q : List D → Sto → Prop} : EW (evs T R (.cons e es) L S) Q E = EW (evE T R e L S) (fun d S1 => EW (evs T R es L S1) (fun ds S2 => Q (d :: ds) S2) E) E := Raw.W_cons
theorem W_T0 {Q : Bool → Sto → Prop} : EW (evT T R .nil L S) Q E = Q true S := Raw.W_T0
theorem W_T1 {e : X} {es : Xs} {Q : Bool → Sto → Prop} : EW (evT T R (.cons e es) L S) Q E = EW (evE T R e L S) (fun d S1 => OW (truthy S1 d) fun k => Q k S1) E := Raw.W_T1
theorem W_no {Q : Option Int → Sto → Prop} : EW (evO T R .no L S) Q E = Q none S := Raw.W_no
theorem W_so {e : X} {Q : Option Int → Sto → Prop} : EW (evO T R (.so e) L S) Q E = EW (evE T R e L S) (fun d S1 => match d with
    | .int i => Q (some i) S1
    | _ => False) E := Raw.W_so
def SeqW (S : Sto) (d : D) (Q : Itv → Sto → Prop) (_ : Dm Q := .mk) : Prop := Raw.SeqW S d Q
theorem W_seq {e : X} {Q : Itv → Sto → Prop} : EW (evI T R (.seq e) L S) Q E = EW (evE T R e L S) (fun d S1 => SeqW S1 d Q) E := Raw.W_seq
theorem W_rng1 {e : X} {Q : Itv → Sto → Prop} : EW (evI T R (.rng1 e) L S) Q E = EW (evE T R e L S) (fun d S1 => match d with
    | .int j => rngOk 0 j = true ∧ Q (.fix (rngD 0 j)) S1
    | _ => False) E := Raw.W_rng1
theorem W_rng2 {e e' : X} {Q : Itv → Sto → Prop} : EW (evI T R (.rng2 e e') L S) Q E = EW (evE T R e L S) (fun d S1 => EW (evE T R e' L S1) (fun d' S2 => match d, d' with
    | .int i, .int j => rngOk i j = true ∧ Q (.fix (rngD i j)) S2
    | _, _ => False) E) E := Raw.W_rng2
end
section
variable {T : Tab} {R : Str → List D → Sto → Out D} {fu : Nat} {L : Am.Loc} {S : Sto} {P : Po}
theorem Z_nil : SW (evSs T R fu .nil L S) P = P.nx L S := Raw.Z_nil
theorem Z_cons {s : Am.S} {r : Ss} : SW (evSs T R fu (.cons s r) L S) P = SW (evS T R fu s L S) ⟨fun L1 S1 => SW (evSs T R fu r L1 S1) P, P.rt, P.ex, P.bk, P.ct⟩ := Raw.Z_cons
theorem Z_exp {e : X} : SW (evS T R fu (.exp e) L S) P = EW (evE T R e L S) (fun _ S1 => P.nx L S1) (fun d S1 => P.ex L d S1) := Raw.Z_exp
theorem Z_set {i : Nat} {e : X} : SW (evS T R fu (.set i e) L S) P = EW (evE T R e L S) (fun d S1 => P.nx (L.set i (some d)) S1) (fun d S1 => P.ex L d S1) := Raw.Z_set
theorem Z_unpack {g : Tg} {e : X} : SW (evS T R fu (.unpack g e) L S) P = EW (evE T R e L S) (fun d S1 => OW (setTg g d L) fun L1 => P.nx L1 S1) (fun d S1 => P.ex L d S1) := Raw.Z_unpack
theorem Z_setat {o : X} {f : Str} {e : X} : SW (evS T R fu (.setat o f e) L S) P = EW (evE T R e L S) (fun d S1 => EW (evE T R o L S1) (fun a S2 => OW (setatD T S2 a f d) fun S3 => P.nx L S3) (fun d S1 => P.ex L d S1)) (fun d S1 => P.ex L d S1) := Raw.Z_setat
theorem Z_setix {o i e : X} : SW (evS T R fu (.setix o i e) L S) P = EW (evE T R e L S) (fun d S1 => EW (evE T R o L S1) (fun a S2 => EW (evE T R i L S2) (fun k S3 => OW (setixD S3 a k d) fun S4 => P.nx L S4) (fun d S1 => P.ex L d S1)) (fun d S1 => P.ex L d S1)) (fun d S1 => P.ex L d S1) := Raw.Z_setix
theorem Z_ret {e : X} : SW (evS T R fu (.ret e) L S) P = EW (evE T R e L S) P.rt (fun d S1 => P.ex L d S1) := Raw.Z_ret
theorem Z_retN : SW (evS T R fu .retN L S) P = P.rt .non S := Raw.Z_retN
theorem Z_raise {e : X} : SW (evS T R fu (.raise e) L S) P = EW (evE T R e L S) (fun d S1 => P.ex L d S1) (fun d S1 => P.ex L d S1) := Raw.Z_raise
theorem Z_brk : SW (evS T R fu .brk L S) P = P.bk L S := Raw.Z_brk
theorem Z_cont : SW (evS T R fu .cont L S) P = P.ct L S := Raw.Z_cont
theorem Z_pass : SW (evS T R fu .pass L S) P = P.nx L S := Raw.Z_pass
theorem Z_ite {c : X} {a b : Ss} : SW (evS T R fu (.ite c a b) L S) P = EW (evE T R c L S) (fun x S1 => OW (truthy S1 x) fun k => IteW k (SW (evSs T R fu a L S1) P) (SW (evSs T R fu b L S1) P)) (fun d S1 => P.ex L d S1) := Raw.Z_ite
theorem Z_for {tg : Tg} {it : Itx} {b : Ss} : SW (evS T R fu (.for_ tg it b) L S) P = EW (evI T R it L S) (fun v S1 => SW (forL v tg (fun L S => evSs T R fu b L S) (v.size S1 + 1) 0 L S1) P) (fun d S1 => P.ex L d S1) := Raw.Z_for
theorem Z_whl {c : X} {b : Ss} : SW (evS T R fu (.whl c b) L S) P = SW (whlL (fun L S => (evE T R c L S).bind fun x S1 => lift S1 (truthy S1 x)) (fun L S => evSs T R fu b L S) fu L S) P := Raw.Z_whl
end
theorem run_W {T : Tab} {fu n : Nat} {f : Str} {vs : List D} {S : Sto} {d : FDef} {Q : D → Sto → Prop} {E : D → Sto → Prop} (hf : T.fn.lookup f = some d) (hl : vs.length = d.ps.length)
    (h : SW (evSs T (run T fu n) fu d.body (startL d.n vs) S) ⟨fun _ S => Q .non S, Q, fun _ d S => E d S, fun _ _ => False, fun _ _ => False⟩) : EW (run T fu (n + 1) f vs S) Q E := Raw.run_W hf hl h
theorem W_test {T : Tab} {R : Str → List D → Sto → Out D} {c : X} {L : Am.Loc} {S : Sto} {Q : Bool → Sto → Prop} {E : D → Sto → Prop} : EW ((evE T R c L S).bind fun x S1 => lift S1 (truthy S1 x)) Q E = EW (evE T R c L S) (fun x S1 => OW (truthy S1 x) fun k => Q k S1) E := Raw.W_test
end Am
/-! Aw1: values, stores, loops. -/
namespace Am
open PySem
section
variable {S : Sto} {Q : D → Sto → Prop} {i j : Int} {x y : Str} {a b : Nat} {xs ys : List D}
theorem B_add : BW .add S (.int i) (.int j) Q = Q (.int (i + j)) S := rfl
theorem B_sub : BW .sub S (.int i) (.int j) Q = Q (.int (i - j)) S := rfl
theorem B_mul : BW .mul S (.int i) (.int j) Q = (mulOk i j = true ∧ Q (.int (i * j)) S) := by
  show EW (if mulOk i j then _ else _) _ _ = _
  rw [EW_if]; rfl
theorem B_fdiv : BW .fdiv S (.int i) (.int j) Q = ((0 < j ∧ j.natAbs.log2 < 9000) ∧ Q (.int (i / j)) S) := by
  show EW (if _ then _ else _) _ _ = _
  rw [EW_if]; rfl
theorem B_mod : BW .mod S (.int i) (.int j) Q = (0 < j ∧ Q (.int (i % j)) S) := by
  show EW (if _ then _ else _) _ _ = _
  rw [EW_if]; rfl
theorem B_pow : BW .pow S (.int i) (.int j) Q = ((0 ≤ j ∧ j ≤ 1000000 ∧ i.natAbs < 2 ^ 64) ∧ Q (.int (i ^ j.toNat)) S) := by
  show EW (if _ then _ else _) _ _ = _
  rw [EW_if]; rfl
theorem B_addS : BW .add S (.str x) (.str y) Q = (x.length + y.length ≤ lim ∧ Q (.str (x ++ y)) S) := by
  show EW (if _ then _ else _) _ _ = _
  rw [EW_if]; rfl
theorem B_addT : BW .add S (.tup xs) (.tup ys) Q = (xs.length + ys.length ≤ lim ∧ Q (.tup (xs ++ ys)) S) := by
  show EW (if _ then _ else _) _ _ = _
  rw [EW_if]; rfl
theorem B_addL : BW .add S (.ref a) (.ref b) Q = OW (wlstAt S a) fun xs => OW (wlstAt S b) fun ys => xs.length + ys.length ≤ lim ∧ Q (.ref S.length) (S ++ [.lst (xs ++ ys)]) := by
  show EW (match wlstAt S a, wlstAt S b with
    | some xs, some ys => if xs.length + ys.length ≤ lim then Out.ok (D.ref S.length) (S ++ [.lst (xs ++ ys)]) else .bad
    | _, _ => .bad) _ _ = _
  cases h1 : wlstAt S a with
  | none => rfl
  | some xs => cases h2 : wlstAt S b with
    | none => rfl
    | some ys =>
      dsimp only [OW_some]
      rw [EW_if]; rfl
theorem c_lt : cmpD .lt S (.int i) (.int j) = some (decide (i < j)) := rfl
theorem c_le : cmpD .le S (.int i) (.int j) = some (decide (i ≤ j)) := rfl
theorem c_gt : cmpD .gt S (.int i) (.int j) = some (decide (j < i)) := rfl
theorem c_ge : cmpD .ge S (.int i) (.int j) = some (decide (j ≤ i)) := rfl
theorem eqD_int : eqD S (.int i) (.int j) = some (decide (i = j)) := by
  have h1 : pd 60 S (.int i) = some (.int i) := rfl
  have h2 : pd 60 S (.int j) = some (.int j) := rfl
  show eqD1 S (.int i) (.int j) = _
  unfold eqD1
  rw [h1, h2]
  dsimp only
  rw [if_pos (by rfl)]
  rfl
theorem eqD_str : eqD S (.str x) (.str y) = some (decide (x = y)) := rfl
theorem c_eqS : cmpD .eq S (.str x) (.str y) = some (decide (x = y)) := rfl
theorem c_neS : cmpD .ne S (.str x) (.str y) = some (!decide (x = y)) := rfl
theorem c_eq : cmpD .eq S (.int i) (.int j) = some (decide (i = j)) := eqD_int (S := S)
theorem c_ne : cmpD .ne S (.int i) (.int j) = some (!decide (i = j)) := by
  show (eqD S (.int i) (.int j)).map _ = _
  rw [eqD_int]; rfl
theorem c_is0 : cmpD .is_ S .non .non = some true := rfl
theorem c_is1 {ds : List D} : cmpD .is_ S (.tup ds) .non = some false := rfl
theorem c_is2 : cmpD .is_ S (.int i) .non = some false := rfl
theorem c_is3 : cmpD .is_ S (.str x) .non = some false := rfl
theorem c_is4 : cmpD .is_ S (.ref a) .non = some false := rfl
theorem c_is5 {k : Bool} : cmpD .is_ S (.bl k) .non = some false := rfl
theorem c_isn0 : cmpD .isnot S .non .non = some false := rfl
theorem c_isn1 {ds : List D} : cmpD .isnot S (.tup ds) .non = some true := rfl
theorem c_isn2 : cmpD .isnot S (.int i) .non = some true := rfl
theorem c_isn3 : cmpD .isnot S (.str x) .non = some true := rfl
theorem c_isn4 : cmpD .isnot S (.ref a) .non = some true := rfl
theorem c_isn5 {k : Bool} : cmpD .isnot S (.bl k) .non = some true := rfl
theorem t_non : truthy S .non = some false := rfl
theorem t_bl {k : Bool} : truthy S (.bl k) = some k := rfl
theorem t_int : truthy S (.int i) = some (i != 0) := rfl
theorem t_tup {ds : List D} : truthy S (.tup ds) = some (!ds.isEmpty) := rfl
/-! the store -/
theorem lst_new {ds : List D} : lstAt (S ++ [.lst ds]) S.length = some ds := by simp [lstAt]
theorem wlst_new {ds : List D} : wlstAt (S ++ [.lst ds]) S.length = some ds := by simp [wlstAt]
theorem dic_new {ds : List (D × D)} : dicAt (S ++ [.dic ds]) S.length = some ds := by simp [dicAt]
theorem lst_nw {ds : List D} {k : Nat} (h : k = S.length) : lstAt (S ++ [.lst ds]) k = some ds := by rw [h]; exact lst_new
theorem wlst_nw {ds : List D} {k : Nat} (h : k = S.length) : wlstAt (S ++ [.lst ds]) k = some ds := by rw [h]; exact wlst_new
theorem dic_nw {ds : List (D × D)} {k : Nat} (h : k = S.length) : dicAt (S ++ [.dic ds]) k = some ds := by rw [h]; exact dic_new
theorem set_nw {x y : MO} {k : Nat} (h : k = S.length) : (S ++ [x]).set k y = S ++ [y] := by rw [h, List.set_append_right _ _ (Nat.le_refl _)]; simp
theorem lst_app {X : Sto} {k : Nat} (h : k < S.length) : lstAt (S ++ X) k = lstAt S k := by unfold lstAt; rw [List.getElem?_append_left h]
theorem wlst_app {X : Sto} {k : Nat} (h : k < S.length) : wlstAt (S ++ X) k = wlstAt S k := by unfold wlstAt; rw [List.getElem?_append_left h]
theorem dic_app {X : Sto} {k : Nat} (h : k < S.length) : dicAt (S ++ X) k = dicAt S k := by unfold dicAt; rw [List.getElem?_append_left h]
theorem at_app {X : Sto} {k : Nat} (h : k < S.length) : (S ++ X)[k]? = S[k]? := List.getElem?_append_left h
theorem lst_of_w {k : Nat} {ds : List D} (h : wlstAt S k = some ds) : lstAt S k = some ds := by
  unfold wlstAt at h
  unfold lstAt
  split at h <;> simp_all
theorem wlst_of {k : Nat} {ds : List D} (h : S[k]? = some (.lst ds)) : wlstAt S k = some ds := by unfold wlstAt; rw [h]
theorem lst_of {k : Nat} {ds : List D} (h : S[k]? = some (.lst ds)) : lstAt S k = some ds := by unfold lstAt; rw [h]
theorem lt_of_at {k : Nat} {o : MO} (h : S[k]? = some o) : k < S.length := (List.getElem?_eq_some_iff.mp h).1
theorem lt_of_lst {k : Nat} {ds : List D} (h : lstAt S k = some ds) : k < S.length := by
  unfold lstAt at h
  cases e : S[k]? with
  | none => rw [e] at h; cases h
  | some o => exact lt_of_at e
theorem lt_of_wlst {k : Nat} {ds : List D} (h : wlstAt S k = some ds) : k < S.length := lt_of_lst (lst_of_w h)
/-! built-ins -/
variable {E : D → Sto → Prop}
theorem b_len {d : D} : EW (bltD .len S [d]) Q E = EW (lenD S d) Q E := rfl
theorem len_ref {k : Nat} : EW (lenD S (.ref k)) Q E = OW (lstAt S k) fun ds => Q (.int ds.length) S := by
  show EW (match lstAt S k with | some ds => Out.ok (D.int ds.length) S | none => .bad) Q E = _
  cases lstAt S k <;> rfl
theorem len_tup {ds : List D} : EW (lenD S (.tup ds)) Q E = Q (.int ds.length) S := rfl
theorem len_str : EW (lenD S (.str x)) Q E = (x.length ≤ lim ∧ Q (.int x.length) S) := EW_if
theorem b_int : EW (bltD .int_ S [.int i]) Q E = Q (.int i) S := rfl
theorem b_intb {k : Bool} : EW (bltD .int_ S [.bl k]) Q E = Q (.int (if k then 1 else 0)) S := rfl
theorem b_abs : EW (bltD .abs S [.int i]) Q E = Q (.int (if i < 0 then -i else i)) S := rfl
theorem b_max2 : EW (bltD .max2 S [.int i, .int j]) Q E = Q (.int (if j > i then j else i)) S := rfl
theorem b_min2 : EW (bltD .min2 S [.int i, .int j]) Q E = Q (.int (if j < i then j else i)) S := rfl
theorem b_tupT {ds : List D} : EW (bltD .tuple S [.tup ds]) Q E = Q (.tup ds) S := rfl
theorem b_tupL {k : Nat} : EW (bltD .tuple S [.ref k]) Q E = OW (lstAt S k) fun ds => Q (.tup ds) S := by
  show EW (match lstAt S k with | some ds => Out.ok (D.tup ds) S | none => .bad) Q E = _
  cases lstAt S k <;> rfl
theorem b_all {k : Nat} : EW (bltD .all S [.ref k]) Q E = OW (lstAt S k) fun ds => OW (blsOf ds) fun bs => Q (.bl (bs.all id)) S := by
  show EW (match (lstAt S k).bind blsOf with | some bs => Out.ok (D.bl (bs.all id)) S | none => .bad) Q E = _
  cases lstAt S k with
  | none => rfl
  | some ds =>
    rw [OW_some, Option.bind_some]
    cases blsOf ds <;> rfl
theorem b_any {k : Nat} : EW (bltD .any S [.ref k]) Q E = OW (lstAt S k) fun ds => OW (blsOf ds) fun bs => Q (.bl (bs.any id)) S := by
  show EW (match (lstAt S k).bind blsOf with | some bs => Out.ok (D.bl (bs.any id)) S | none => .bad) Q E = _
  cases lstAt S k with
  | none => rfl
  | some ds =>
    rw [OW_some, Option.bind_some]
    cases blsOf ds <;> rfl
theorem b_sum {k : Nat} : EW (bltD .sum S [.ref k]) Q E = OW (lstAt S k) fun ds => OW (intsOf ds) fun bs => Q (.int bs.sum) S := by
  show EW (match (lstAt S k).bind intsOf with | some bs => Out.ok (D.int bs.sum) S | none => .bad) Q E = _
  cases lstAt S k with
  | none => rfl
  | some ds =>
    rw [OW_some, Option.bind_some]
    cases intsOf ds <;> rfl
theorem b_repr {d : D} {p : PyData} (h : pd 60 S d = some p) : EW (bltD .repr S [d]) Q E = (reprOk p = true ∧ Q (.str p.shown) S) := by
  show EW (reprD S d) Q E = _
  unfold reprD
  rw [h]
  exact EW_if
theorem ix_tup {ds : List D} : ixD S (.tup ds) (.int i) = atI ds i := rfl
theorem ix_ref {k : Nat} : ixD S (.ref k) (.int i) = (lstAt S k).bind fun ds => atI ds i := by
  show (match lstAt S k with
    | some ds => atI ds i
    | none => none) = _
  cases lstAt S k <;> rfl
theorem sl_tup {ds : List D} {lo hi : Option Int} : EW (slD S (.tup ds) lo hi) Q E = Q (.tup (cutD ds lo hi)) S := rfl
theorem sl_ref {k : Nat} {lo hi : Option Int} : EW (slD S (.ref k) lo hi) Q E = OW (lstAt S k) fun ds => Q (.ref S.length) (S ++ [.lst (cutD ds lo hi)]) := by
  show EW (match lstAt S k with
    | some ds => Out.ok (.ref S.length) (S ++ [.lst (cutD ds lo hi)])
    | none => .bad) Q E = _
  cases lstAt S k <;> rfl
end
section
variable {T : Tab} {R : Str → List D → Sto → Out D} {fu : Nat} {P : Po}
/-! loops -/
/-- over what never changes -/
theorem for_fix {tg : Tg} {b : Loc → Sto → SOut} {ds : List D} (I : Nat → Loc → Sto → Prop) {L : Loc} {S : Sto} (h0 : I 0 L S)
    (step : ∀ k d L S, ds[k]? = some d → I k L S → OW (setTg tg d L) fun L1 => SW (b L1 S) ⟨I (k + 1), P.rt, P.ex, P.nx, I (k + 1)⟩)
    (fin : ∀ L S, I ds.length L S → P.nx L S) {n : Nat} (hn : ds.length < n) : SW (forL (.fix ds) tg b n 0 L S) P := by
  have key : ∀ n k L S, k ≤ ds.length → ds.length < n + k → I k L S → SW (forL (.fix ds) tg b n k L S) P := by
    intro n
    induction n with
    | zero => intro k L S h1 h2; omega
    | succ n ih =>
      intro k L S h1 h2 hI
      unfold forL
      show SW (match some ds[k]? with | none => .bad | some none => .nx L S | some (some d) => _) P
      cases e : ds[k]? with
      | none =>
        have := List.getElem?_eq_none_iff.mp e
        have : k = ds.length := by omega
        subst this
        exact fin L S hI
      | some d =>
        have hk := (List.getElem?_eq_some_iff.mp e).1
        have st := step k d L S e hI
        dsimp only
        cases q : setTg tg d L with
        | none => rw [q] at st; exact st.elim
        | some L1 =>
          rw [q] at st
          dsimp only
          rw [SW_turn]
          refine SW_mono st (fun L S h => ih _ L S (by omega) (by omega) h) (fun _ _ h => h) (fun _ _ _ h => h) (fun _ _ h => h) fun L S h => ih _ L S (by omega) (by omega) h
  exact key n 0 L S (Nat.zero_le _) (by omega) h0
/-- over a list that stands while it is walked -/
theorem for_lst {tg : Tg} {b : Loc → Sto → SOut} {r : Nat} {ds : List D} (I : Nat → Loc → Sto → Prop) {L : Loc} {S : Sto} (h0 : I 0 L S)
    (st : ∀ k L S, I k L S → lstAt S r = some ds)
    (step : ∀ k d L S, ds[k]? = some d → I k L S → OW (setTg tg d L) fun L1 => SW (b L1 S) ⟨I (k + 1), P.rt, P.ex, P.nx, I (k + 1)⟩)
    (fin : ∀ L S, I ds.length L S → P.nx L S) {n : Nat} (hn : ds.length < n) : SW (forL (.lst r) tg b n 0 L S) P := by
  have key : ∀ n k L S, k ≤ ds.length → ds.length < n + k → I k L S → SW (forL (.lst r) tg b n k L S) P := by
    intro n
    induction n with
    | zero => intro k L S h1 h2; omega
    | succ n ih =>
      intro k L S h1 h2 hI
      unfold forL
      have e0 : Itv.at (.lst r) S k = some ds[k]? := by
        show (lstAt S r).map _ = _
        rw [st k L S hI]
        rfl
      rw [e0]
      cases e : ds[k]? with
      | none =>
        have := List.getElem?_eq_none_iff.mp e
        have : k = ds.length := by omega
        subst this
        exact fin L S hI
      | some d =>
        have hk := (List.getElem?_eq_some_iff.mp e).1
        have st := step k d L S e hI
        dsimp only
        cases q : setTg tg d L with
        | none => rw [q] at st; exact st.elim
        | some L1 =>
          rw [q] at st
          dsimp only
          rw [SW_turn]
          refine SW_mono st (fun L S h => ih _ L S (by omega) (by omega) h) (fun _ _ h => h) (fun _ _ _ h => h) (fun _ _ h => h) fun L S h => ih _ L S (by omega) (by omega) h
  exact key n 0 L S (Nat.zero_le _) (by omega) h0
/-- a while, by a measure -/
theorem whl_by {c : Loc → Sto → Out Bool} {b : Loc → Sto → SOut} (I : Loc → Sto → Prop) (μ : Loc → Sto → Nat) {L : Loc} {S : Sto} (h0 : I L S)
    (step : ∀ L S, I L S → EW (c L S) (fun k S1 => IteW k (SW (b L S1) ⟨fun L' S' => I L' S' ∧ μ L' S' < μ L S, P.rt, P.ex, P.nx, fun L' S' => I L' S' ∧ μ L' S' < μ L S⟩) (P.nx L S1)) (fun d S => P.ex L d S))
    {n : Nat} (hn : μ L S < n) : SW (whlL c b n L S) P := by
  have key : ∀ n L S, μ L S < n → I L S → SW (whlL c b n L S) P := by
    intro n
    induction n with
    | zero => intro L S h; omega
    | succ n ih =>
      intro L S h hI
      unfold whlL
      rw [SW_toS]
      refine EW_mono (step L S hI) (fun k S1 h1 => ?_) fun _ _ h => h
      cases k with
      | false => exact h1.2 rfl
      | true =>
        show SW ((b L S1).turn _) P
        rw [SW_turn]
        refine SW_mono (h1.1 rfl) (fun L' S' h => ih L' S' (by omega) h.1) (fun _ _ h => h) (fun _ _ _ h => h) (fun _ _ h => h) fun L' S' h => ih L' S' (by omega) h.1
  exact key n L S hn h0
/-- a comprehension: I of the items done, what is made, the store -/
theorem comp_by {v : Itv} {tg : Tg} {r : Nat} {c : Loc → Sto → Out Bool} {f : Loc → Sto → Out D} {ds : List D} {L : Loc} {S : Sto} {Q : D → Sto → Prop} {E : D → Sto → Prop} (I : Nat → List D → Sto → Prop) (h0 : I 0 [] S)
    (at_ : ∀ k acc S, I k acc S → v.at S k = some ds[k]? ∧ wlstAt S r = some acc ∧ acc.length ≤ k)
    (step : ∀ k d acc S, ds[k]? = some d → I k acc S → OW (setTg tg d L) fun L1 => EW (c L1 S) (fun q S1 => IteW q (EW (f L1 S1) (fun y S2 => wlstAt S2 r = some acc ∧ I (k + 1) (acc ++ [y]) (S2.set r (.lst (acc ++ [y])))) fun _ _ => False) (I (k + 1) acc S1)) fun _ _ => False)
    (hl : ds.length ≤ lim) (fin : ∀ acc S, I ds.length acc S → Q (.ref r) S) {n : Nat} (hn : ds.length < n) : EW (compL v tg r c f n 0 L S) Q E := by
  have key : ∀ n k acc S, k ≤ ds.length → ds.length < n + k → I k acc S → EW (compL v tg r c f n k L S) Q E := by
    intro n
    induction n with
    | zero => intro k acc S h1 h2; omega
    | succ n ih =>
      intro k acc S h1 h2 hI
      unfold compL
      obtain ⟨e0, e1, e2⟩ := at_ k acc S hI
      rw [e0]
      cases e : ds[k]? with
      | none =>
        have := List.getElem?_eq_none_iff.mp e
        have : k = ds.length := by omega
        subst this
        exact fin acc S hI
      | some d =>
        have hk := (List.getElem?_eq_some_iff.mp e).1
        have st := step k d acc S e hI
        dsimp only
        cases q : setTg tg d L with
        | none => rw [q] at st; exact st.elim
        | some L1 =>
          rw [q] at st
          have st' : EW (c L1 S) _ _ := st
          dsimp only
          cases hc : c L1 S with
          | exc d' S' => rw [hc] at st'; exact st'.elim
          | bad => rw [hc] at st'; exact st'.elim
          | ok k' S1 =>
            rw [hc] at st'
            have st2 : IteW k' _ _ := st'
            cases k' with
            | false => exact ih (k + 1) acc S1 (by omega) (by omega) (st2.2 rfl)
            | true =>
              have st3 := st2.1 rfl
              dsimp only
              cases hf : f L1 S1 with
              | exc d' S' => rw [hf] at st3; exact st3.elim
              | bad => rw [hf] at st3; exact st3.elim
              | ok y S2 =>
                rw [hf] at st3
                obtain ⟨w1, w2⟩ := (show _ ∧ _ from st3)
                dsimp only
                rw [w1]
                dsimp only
                rw [if_pos (by omega)]
                exact ih (k + 1) (acc ++ [y]) _ (by omega) (by omega) w2
  exact key n 0 [] S (Nat.zero_le _) (by omega) h0
end
end Am
set_option maxHeartbeats 2000000
/-! Aw2: more of values; data. -/
namespace Am
open PySem
theorem IteW_d {p : Prop} [Decidable p] {A B : Prop} : IteW (decide p) A B = ((p → A) ∧ (¬p → B)) := by
  by_cases h : p <;> simp [IteW, Raw.IteW, h]
theorem IteW_n {k : Bool} {A B : Prop} : IteW (!k) A B = IteW k B A := by cases k <;> simp [IteW, Raw.IteW]
theorem bind_1 {a : D} {r : Shp} : Shp.bind (((1, []), [.pos 0]) :: r) [a] [] [] = some [a] := rfl
theorem bind_2 {a b : D} {r : Shp} : Shp.bind (((2, []), [.pos 0, .pos 1]) :: r) [a, b] [] [] = some [a, b] := rfl
theorem bind_0 {r : Shp} : Shp.bind (((0, []), []) :: r) [] [] [] = some [] := rfl
theorem setix_ref {S : Sto} {r : Nat} {k : Int} {d : D} : setixD S (.ref r) (.int k) d = (wlstAt S r).bind fun ds => (Am.ixN ds.length k).map fun j => S.set r (.lst (ds.set j d)) := by
  show (match wlstAt S r with | some ds => (Am.ixN ds.length k).map fun j => S.set r (.lst (ds.set j d)) | none => none) = _
  cases wlstAt S r <;> rfl
theorem Raw.OW_imp {α : Type} {o : Option α} {Q Q' : α → Prop} (h : OW o Q) (q : ∀ a, Q a → Q' a) : OW o Q' := by
  cases o with
  | none => exact h
  | some a => exact q a h
theorem lst_set {S : Sto} {r : Nat} {ds : List D} (h : r < S.length) : lstAt (S.set r (.lst ds)) r = some ds := by
  unfold lstAt; rw [List.getElem?_set_self h]
theorem wlst_set {S : Sto} {r : Nat} {ds : List D} (h : r < S.length) : wlstAt (S.set r (.lst ds)) r = some ds := by
  unfold wlstAt; rw [List.getElem?_set_self h]
theorem atI_k {xs : List D} {k : Nat} {d : D} (h : xs[k]? = some d) : atI xs (k : Int) = some d := by
  have hk := (List.getElem?_eq_some_iff.mp h).1
  show L2.atI _ _ = _
  unfold L2.atI L2.ixN
  rw [if_pos (by omega), if_pos (by omega)]
  exact h
theorem atI_0 {a : D} {r : List D} : atI (a :: r) 0 = some a := atI_k (k := 0) rfl
theorem atI_1 {a b : D} {r : List D} : atI (a :: b :: r) 1 = some b := atI_k (k := 1) rfl
theorem atI_2 {a b c : D} {r : List D} : atI (a :: b :: c :: r) 2 = some c := atI_k (k := 2) rfl
theorem log2_lt {n k : Nat} (h : n < 2 ^ (k + 1)) : n.log2 < k + 1 := by
  by_cases z : n = 0
  · subst z; rw [show Nat.log2 0 = 0 from by decide]; omega
  · exact (Nat.log2_lt z).mpr h
theorem setTg_1 {i : Nat} {d : D} {L : Loc} : setTg (.one i) d L = some (L.set i (some d)) := rfl
theorem setTg_2 {i j : Nat} {a b : D} {L : Loc} : setTg (.two i j) (.tup [a, b]) L = some ((L.set i (some a)).set j (some b)) := rfl
theorem setTg_3 {i j k : Nat} {a b c : D} {L : Loc} : setTg (.three i j k) (.tup [a, b, c]) L = some (((L.set i (some a)).set j (some b)).set k (some c)) := rfl
theorem mulOk_by {i j : Int} (h1 : i.natAbs < 18446744073709551616) (h2 : j.natAbs < 18446744073709551616) : mulOk i j = true := by
  have a := log2_lt (k := 63) (n := i.natAbs) (by simpa using h1)
  have b := log2_lt (k := 63) (n := j.natAbs) (by simpa using h2)
  unfold mulOk
  exact decide_eq_true (by omega)
theorem log_by {i : Int} (h : i.natAbs < 18446744073709551616) : i.natAbs.log2 < 9000 := by
  have a := log2_lt (k := 63) (n := i.natAbs) (by simpa using h)
  omega
theorem ixN_30 : Am.ixN 3 0 = some 0 := rfl
theorem ixN_31 : Am.ixN 3 1 = some 1 := rfl
theorem ixN_32 : Am.ixN 3 2 = some 2 := rfl
theorem SeqW_ref {S : Sto} {r : Nat} {Q : Itv → Sto → Prop} : SeqW S (.ref r) Q = ((lstAt S r).isSome = true ∧ Q (.lst r) S) := rfl
theorem SeqW_tup {S : Sto} {ds : List D} {Q : Itv → Sto → Prop} : SeqW S (.tup ds) Q = Q (.fix ds) S := rfl
theorem le_lim {k : Nat} (h : k ≤ 16777216) : (k ≤ lim) = True := eq_true h
theorem log_by' {i : Int} (h : i.natAbs < 18446744073709551616) : (i.natAbs.log2 < 9000) = True := eq_true (log_by h)
theorem rngOk_by {i j : Int} (h0 : -1000000000000000000 ≤ i ∧ i ≤ 1000000000000000000) (h : -1000000000000000000 ≤ j ∧ j ≤ 1000000000000000000) : rngOk i j = true := by
  unfold rngOk
  exact decide_eq_true (by omega)
/-! data -/
theorem mapM_some {α β : Type} {f g : α → Option β} : ∀ {l : List α} {r : List β}, l.mapM f = some r → (∀ a b, a ∈ l → f a = some b → g a = some b) → l.mapM g = some r
  | [], r, h, _ => by simpa using h
  | a :: l, r, h, q => by
    rw [List.mapM_cons] at h ⊢
    cases e : f a with
    | none => rw [e] at h; cases h
    | some b =>
      rw [e] at h
      rw [q a b (by simp) e]
      cases e2 : l.mapM f with
      | none => rw [e2] at h; cases h
      | some r' =>
        rw [e2] at h
        rw [mapM_some e2 fun a b ha => q a b (by simp [ha])]
        exact h
theorem pd_mono {S S' : Sto} (h : ∀ i ds, lstAt S i = some ds → lstAt S' i = some ds) : ∀ (n : Nat) (d : D) (p : PyData), pd n S d = some p → pd n S' d = some p
  | 0, d, p, e => by cases d <;> first | exact e | cases e
  | n + 1, d, p, e => by
    cases d with
    | tup ds =>
      unfold pd at e ⊢
      cases q : ds.mapM (pd n S) with
      | none => rw [q] at e; cases e
      | some r => rw [mapM_some q fun a b _ => pd_mono h n a b]; rw [q] at e; exact e
    | ref i =>
      unfold pd at e ⊢
      cases q0 : lstAt S i with
      | none => rw [q0] at e; cases e
      | some ds =>
        rw [q0] at e
        rw [h i ds q0]
        dsimp only at e ⊢
        cases q : ds.mapM (pd n S) with
        | none => rw [q] at e; cases e
        | some r => rw [mapM_some q fun a b _ => pd_mono h n a b]; rw [q] at e; exact e
    | exc C ns ds => unfold pd at e; cases e
    | _ => exact e
theorem lst_keep {S X : Sto} {i : Nat} {ds : List D} (h : lstAt S i = some ds) : lstAt (S ++ X) i = some ds := by rw [lst_app (lt_of_lst h)]; exact h
theorem pd_app {S X : Sto} {n : Nat} {d : D} {p : PyData} (h : pd n S d = some p) : pd n (S ++ X) d = some p := pd_mono (fun _ _ => lst_keep) n d p h
theorem mapM_ints {n : Nat} {S : Sto} : ∀ ns : List Int, (ns.map D.int).mapM (pd n S) = some (ns.map PyData.int)
  | [] => rfl
  | a :: r => by
    rw [List.map_cons, List.mapM_cons, mapM_ints r]
    cases n <;> rfl
theorem pd_lints {n : Nat} {S : Sto} {i : Nat} {ns : List Int} (h : lstAt S i = some (ns.map D.int)) : pd (n + 1) S (.ref i) = some (.list (ns.map PyData.int)) := by
  unfold pd
  rw [h]
  dsimp only
  rw [mapM_ints]
  rfl
theorem lay_ints : ∀ ns : List Int, PyData.canLayAll0 (ns.map PyData.int) = true
  | [] => by simp [PyData.canLayAll0]
  | a :: r => by simp [PyData.canLayAll0, PyData.canLay0, lay_ints r]
theorem depth_ints : ∀ ns : List Int, PyData.depthAll (ns.map PyData.int) = 0
  | [] => by simp [PyData.depthAll]
  | a :: r => by simp [PyData.depthAll, PyData.depth, depth_ints r]
theorem okd_ints {ns : List Int} : okd (.list (ns.map PyData.int)) = true := by
  unfold okd SeqAt.shaped
  simp [PyData.canLay0, PyData.depth, lay_ints, depth_ints]
theorem eqv_ints : ∀ ns ms : List Int, PyData.eqvAll (ns.map PyData.int) (ms.map PyData.int) = decide (ns = ms)
  | [], [] => by simp [PyData.eqvAll]
  | [], _ :: _ => by simp [PyData.eqvAll]
  | _ :: _, [] => by simp [PyData.eqvAll]
  | a :: r, b :: t => by
    simp only [List.map_cons, PyData.eqvAll, PyData.eqv, eqv_ints r t]
    by_cases h : a = b <;> by_cases h2 : r = t <;> simp [h, h2]
theorem strs2_none {a b : D} {S : Sto} {p q : PyData} (h1 : pd 60 S a = some p) (h2 : pd 60 S b = some q) (o1 : okd p = true) (o2 : okd q = true) {x : Str × Str} (h : strs2 a b = some x) : eqD S a b = eqD1 S a b := by
  obtain ⟨x1, x2⟩ := x
  have : a = .str x1 ∧ b = .str x2 := by
    unfold strs2 at h
    split at h
    · cases h; exact ⟨rfl, rfl⟩
    · cases h
  obtain ⟨rfl, rfl⟩ := this
  cases h1; cases h2
  show some _ = eqD1 S _ _
  unfold eqD1
  show _ = (if okd (.str x1) && okd (.str x2) then some (PyData.eqv (.str x1) (.str x2)) else none)
  rw [if_pos (by rw [o1, o2]; rfl)]
  simp [PyData.eqv]
  by_cases h : x1 = x2 <;> simp [h]
theorem eqD_of {S : Sto} {a b : D} {p q : PyData} (h1 : pd 60 S a = some p) (h2 : pd 60 S b = some q) (o1 : okd p = true) (o2 : okd q = true) : eqD S a b = some (PyData.eqv p q) := by
  have e : eqD S a b = eqD1 S a b := by
    cases h : strs2 a b with
    | none => unfold eqD; rw [h]
    | some x => exact strs2_none h1 h2 o1 o2 h
  rw [e]
  unfold eqD1
  rw [h1, h2]
  dsimp only
  rw [if_pos (by rw [o1, o2]; rfl)]
theorem eqD_lints {S : Sto} {i j : Nat} {ns ms : List Int} (h1 : lstAt S i = some (ns.map D.int)) (h2 : lstAt S j = some (ms.map D.int)) : eqD S (.ref i) (.ref j) = some (decide (ns = ms)) := by
  rw [eqD_of (pd_lints h1) (pd_lints h2) okd_ints okd_ints]
  simp [PyData.eqv, eqv_ints]
/-- comparing what eqD tells -/
theorem c_eqD {S : Sto} {a b : D} : cmpD .eq S a b = eqD S a b := rfl
theorem c_neD {S : Sto} {a b : D} : cmpD .ne S a b = (eqD S a b).map (!·) := rfl
theorem Shp_bind_eq {sh : Shp} {as ws vs : List D} {kn : List Str} {src : List Src} (h1 : ws.length = kn.length) (h2 : sh.lookup (as.length, kn) = some src) (h3 : srcs as ws src = some vs) : sh.bind as kn ws = some vs := by
  unfold Shp.bind
  rw [if_pos h1, h2]
  exact h3
/-- all but p stays -/
def Fr (p : Option Nat) (S S' : Sto) : Prop := S.length ≤ S'.length ∧ ∀ i, i < S.length → some i ≠ p → S'[i]? = S[i]?
theorem Fr.refl (p : Option Nat) (S : Sto) : Fr p S S := ⟨Nat.le_refl _, fun _ _ _ => rfl⟩
theorem Fr.trans {p : Option Nat} {S S1 S2 : Sto} (a : Fr p S S1) (b : Fr p S1 S2) : Fr p S S2 := ⟨Nat.le_trans a.1 b.1, fun i h n => (b.2 i (Nat.lt_of_lt_of_le h a.1) n).trans (a.2 i h n)⟩
theorem Fr.app {p : Option Nat} {S S1 X : Sto} (a : Fr p S S1) : Fr p S (S1 ++ X) := a.trans ⟨by simp, fun i h _ => List.getElem?_append_left h⟩
theorem Fr.app' {p : Option Nat} {S X : Sto} : Fr p S (S ++ X) := (Fr.refl p S).app
theorem Fr.set {p : Nat} {S S1 : Sto} {o : MO} (a : Fr (some p) S S1) : Fr (some p) S (S1.set p o) := a.trans ⟨by simp, fun i h n => List.getElem?_set_ne fun e => n (by rw [e])⟩
theorem Fr.set' {p : Nat} {S : Sto} {o : MO} : Fr (some p) S (S.set p o) := (Fr.refl _ S).set
theorem Fr.new {p : Nat} {q : Option Nat} {S S1 S2 : Sto} (a : Fr q S S1) (hp : S.length ≤ p) (b : Fr (some p) S1 S2) : Fr q S S2 :=
  ⟨Nat.le_trans a.1 b.1, fun i h n => (b.2 i (Nat.lt_of_lt_of_le h a.1) fun e => by cases e; omega).trans (a.2 i h n)⟩
theorem Fr.some {p : Option Nat} {S S1 : Sto} (a : Fr none S S1) : Fr p S S1 := ⟨a.1, fun i h _ => a.2 i h (by simp)⟩
theorem Fr.at {p : Option Nat} {S S1 : Sto} {i : Nat} {o : MO} (a : Fr p S S1) (h : S[i]? = Option.some o) (n : Option.some i ≠ p) : S1[i]? = Option.some o := by rw [a.2 i (lt_of_at h) n]; exact h
theorem Fr.lst {p : Option Nat} {S S1 : Sto} {i : Nat} {ds : List D} (a : Fr p S S1) (h : lstAt S i = Option.some ds) (n : Option.some i ≠ p) : lstAt S1 i = Option.some ds := by
  unfold lstAt
  rw [a.2 i (lt_of_lst h) n]
  exact h
theorem Fr.wlst {p : Option Nat} {S S1 : Sto} {i : Nat} {ds : List D} (a : Fr p S S1) (h : wlstAt S i = Option.some ds) (n : Option.some i ≠ p) : wlstAt S1 i = Option.some ds := by
  unfold wlstAt
  rw [a.2 i (lt_of_wlst h) n]
  exact h
theorem Fr.pd {S S1 : Sto} (a : Fr none S S1) {n : Nat} {d : D} {p : PyData} (h : pd n S d = Option.some p) : pd n S1 d = Option.some p := pd_mono (fun _ _ h => a.lst h (by simp)) n d p h
/-- a comprehension without a test: each item's value fulfils P, whatever else is made -/
theorem comp_rel {v : Itv} {tg : Tg} {q n : Nat} {c : Am.Loc → Sto → Out Bool} {f : Am.Loc → Sto → Out D} {ds : List D} {L : Am.Loc} {S : Sto} {Q : D → Sto → Prop} {E : D → Sto → Prop} (P : Nat → D → Sto → Prop) (hq : q = S.length)
    (hv : ∀ S' k, Fr none S S' → v.at S' k = some ds[k]?) (mono : ∀ k y S1 S2, P k y S1 → Fr none S S1 → Fr (some q) S1 S2 → P k y S2)
    (step : ∀ k d S', ds[k]? = some d → Fr none S S' → q < S'.length → OW (setTg tg d L) fun L1 => EW (c L1 S') (fun b S1 => b = true ∧ S1 = S' ∧ EW (f L1 S') (fun y S2 => Fr none S' S2 ∧ P k y S2) fun _ _ => False) fun _ _ => False)
    (hl : ds.length ≤ lim) (hn : ds.length < n)
    (fin : ∀ S' ys, Fr none S S' → q < S'.length → wlstAt S' q = some ys → ys.length = ds.length → (∀ k y, ys[k]? = some y → P k y S') → Q (.ref q) S') :
    EW (compL v tg q c f n 0 L (S ++ [.lst []])) Q E := by
  refine comp_by (ds := ds) (fun k acc S' => q < S'.length ∧ Fr none S S' ∧ wlstAt S' q = some acc ∧ acc.length = k ∧ ∀ j y, acc[j]? = some y → P j y S') ⟨by rw [hq]; simp, Fr.app', by rw [hq]; exact wlst_new, rfl, fun j y h => by simp at h⟩ ?_ ?_ hl ?_ hn
  · rintro k acc S' ⟨h1, h2, h3, h4, h5⟩
    exact ⟨hv S' k h2, h3, by omega⟩
  · rintro k d acc S' hd ⟨h1, h2, h3, h4, h5⟩
    have st := step k d S' hd h2 h1
    refine Raw.OW_imp st fun L1 st => ?_
    refine EW_of st fun b S1 ⟨hb, hS, st⟩ => ?_
    subst hb hS
    rw [IteW_t]
    refine EW_of st fun y S2 ⟨F, p⟩ => ?_
    have F3 : Fr (some q) S2 (S2.set q (.lst (acc ++ [y]))) := Fr.set'
    have lt2 : q < S2.length := Nat.lt_of_lt_of_le h1 F.1
    refine ⟨F.wlst h3 (by simp), by simpa using lt2, Fr.new (h2.trans F) (by omega) F3, wlst_set lt2, by simp [h4], fun j z hz => ?_⟩
    rw [List.getElem?_append] at hz
    split at hz
    · exact mono j z S1 _ (h5 j z hz) h2 ((F.some).trans F3)
    · rename_i hj
      have : j = k := by
        have := (List.getElem?_eq_some_iff.mp hz).1
        simp at this
        omega
      subst this
      simp [h4] at hz
      subst hz
      exact mono _ _ S2 _ p (h2.trans F) F3
  · rintro acc S' ⟨h1, h2, h3, h4, h5⟩
    exact fin S' acc h2 h1 h3 h4 h5
end Am
set_option maxHeartbeats 0
/-! K01Tab: the table of law_k01. The bodies are printed by wip/tool/GenK01.lean. -/
namespace K01
open PySem Am
def b_law_cell : Ss :=
  (.cons (.ite (.cmp .lt (.var 1) (.blt .len (.cons (.var 0) .nil))) (.cons (.ret (.blt .int_ (.cons (.ix (.var 0) (.var 1)) .nil)))
  .nil) .nil)
  (.cons (.set 2 (.bin .add (.con (.int 46021)) (.bin .mul (.con (.int 733)) (.var 1))))
  (.cons (.for_ (.one 3) (.seq (.sl (.var 0) .no (.so (.con (.int 5))))) (.cons (.set 2 (.bin .mod (.blt .int_ (.cons (.bin .add (.bin .mul (.var 2) (.con (.int 46327))) (.blt .int_ (.cons (.var 3) .nil))) .nil)) (.con (.int 2147481997))))
  .nil))
  (.cons (.ret (.bin .mod (.blt .int_ (.cons (.bin .add (.bin .mul (.var 2) (.var 2)) (.bin .mul (.con (.int 90007)) (.var 1))) .nil)) (.con (.int 2147481967))))
  .nil))))
def nb_law_cell : List Str := ["_law_cells", "_law_k", "_law_found", "_law_cell_here"]
def b_law_pool : Ss :=
  (.cons (.set 1 (.ite (.or (.cmp .lt (.var 0) (.con (.int 0))) (.cmp .ge (.var 0) (.bin .pow (.con (.int 10)) (.con (.int 18))))) (.blt .abs (.cons (.var 0) .nil)) (.con (.int 0))))
  (.cons (.ret (.lst (.cons (.bin .mod (.blt .int_ (.cons (.var 0) .nil)) (.con (.int 2147481949))) (.cons (.var 1) (.cons (.con (.int 0)) .nil)))))
  .nil))
def nb_law_pool : List Str := ["_law_cell_here", "_law_left"]
def b_law_draw : Ss :=
  (.cons (.setix (.var 0) (.con (.int 2)) (.bin .add (.ix (.var 0) (.con (.int 2))) (.con (.int 1))))
  (.cons (.set 2 (.bin .mod (.blt .int_ (.cons (.bin .add (.bin .add (.bin .mul (.ix (.var 0) (.con (.int 0))) (.con (.int 46349))) (.bin .mul (.con (.int 70001)) (.ix (.var 0) (.con (.int 2))))) (.con (.int 11))) .nil)) (.con (.int 2147481937))))
  (.cons (.setix (.var 0) (.con (.int 0)) (.bin .mod (.blt .int_ (.cons (.bin .add (.bin .mul (.var 2) (.var 2)) (.bin .mul (.con (.int 46301)) (.ix (.var 0) (.con (.int 2))))) .nil)) (.con (.int 2147481907))))
  (.cons (.ite (.cmp .gt (.ix (.var 0) (.con (.int 1))) (.con (.int 0))) (.cons (.set 3 (.bin .mod (.blt .int_ (.cons (.ix (.var 0) (.con (.int 1))) .nil)) (.var 1)))
  (.cons (.setix (.var 0) (.con (.int 1)) (.bin .fdiv (.ix (.var 0) (.con (.int 1))) (.var 1)))
  (.cons (.ret (.var 3))
  .nil))) .nil)
  (.cons (.ret (.bin .mod (.blt .int_ (.cons (.bin .fdiv (.ix (.var 0) (.con (.int 0))) (.con (.int 128))) .nil)) (.var 1)))
  .nil)))))
def nb_law_draw : List Str := ["_law_pool_here", "_law_many", "_law_seed", "_law_digit"]
def b_law_word : Ss :=
  (.cons (.ite (.cmp .eq (.call "_law_draw" (.cons (.var 0) (.cons (.con (.int 7)) .nil)) [] .nil) (.con (.int 0))) (.cons (.set 1 (.lst (.cons (.con (.str "write")) (.cons (.con (.str "trim")) (.cons (.con (.str "open")) (.cons (.con (.str "new")) (.cons (.con (.str "drive")) (.cons (.con (.str "any")) (.cons (.con (.str "oldest")) (.cons (.con (.str "most")) (.cons (.con (.str "free")) (.cons (.con (.str "n0")) (.cons (.con (.str "n1")) .nil)))))))))))))
  (.cons (.ret (.ix (.var 1) (.call "_law_draw" (.cons (.var 0) (.cons (.con (.int 11)) .nil)) [] .nil)))
  .nil)) .nil)
  (.cons (.set 2 (.con (.str "abcdefghijklmnopqrstuvwxyz0123456789")))
  (.cons (.set 3 (.ix (.var 2) (.call "_law_draw" (.cons (.var 0) (.cons (.con (.int 26)) .nil)) [] .nil)))
  (.cons (.for_ (.one 4) (.rng1 (.call "_law_draw" (.cons (.var 0) (.cons (.con (.int 8)) .nil)) [] .nil)) (.cons (.set 3 (.bin .add (.var 3) (.ix (.var 2) (.call "_law_draw" (.cons (.var 0) (.cons (.con (.int 36)) .nil)) [] .nil))))
  .nil))
  (.cons (.ret (.var 3))
  .nil)))))
def nb_law_word : List Str := ["_law_pool_here", "_law_some", "_law_signs", "_law_found", "_law_k"]
def b_law_things : Ss :=
  (.cons (.set 1 (.bin .sub (.call "_law_draw" (.cons (.var 0) (.cons (.bin .pow (.con (.int 10)) (.con (.int 15))) .nil)) [] .nil) (.con (.int 7))))
  (.cons (.set 2 (.call "_law_word" (.cons (.var 0) .nil) [] .nil))
  (.cons (.set 3 (.lst (.cons (.con .non) (.cons (.con (.bl true)) (.cons (.con (.bl false)) (.cons (.con (.int 0)) (.cons (.var 1) (.cons (.bin .pow (.con (.int 10)) (.con (.int 30))) (.cons (.con (.str "")) (.cons (.var 2) (.cons (.tup .nil) (.cons (.tup (.cons (.var 1) (.cons (.var 2) .nil))) .nil))))))))))))
  (.cons (.ret (.bin .add (.var 3) (.lst (.cons (.lst .nil) (.cons (.lst (.cons (.var 2) (.cons (.lst (.cons (.var 1) .nil)) .nil))) (.cons .dic0 (.cons (.dic1 (.var 2) (.var 1)) .nil)))))))
  .nil))))
def nb_law_things : List Str := ["_law_pool_here", "_law_far_here", "_law_tag", "_law_some"]
def b_law_sorts : Ss :=
  (.cons (.set 1 (.lst (.cons (.isi (.var 0) ["InvalidBlocks"]) (.cons (.isi (.var 0) ["InvalidPages"]) (.cons (.isi (.var 0) ["InvalidNames"]) .nil)))))
  (.cons (.set 1 (.bin .add (.var 1) (.lst (.cons (.isi (.var 0) ["InvalidPrice"]) (.cons (.isi (.var 0) ["InvalidNumber"]) (.cons (.isi (.var 0) ["InvalidFlag"]) .nil))))))
  (.cons (.set 1 (.bin .add (.var 1) (.lst (.cons (.isi (.var 0) ["InvalidDrift"]) (.cons (.isi (.var 0) ["InvalidText"]) (.cons (.isi (.var 0) ["InvalidName"]) .nil))))))
  (.cons (.set 1 (.bin .add (.var 1) (.lst (.cons (.isi (.var 0) ["InvalidIndex"]) (.cons (.isi (.var 0) ["InvalidClaim"]) (.cons (.isi (.var 0) ["NotADrive"]) .nil))))))
  (.cons (.set 1 (.bin .add (.var 1) (.lst (.cons (.isi (.var 0) ["InvalidRows"]) (.cons (.isi (.var 0) ["InvalidLoad"]) (.cons (.isi (.var 0) ["UnknownName"]) .nil))))))
  (.cons (.set 1 (.bin .add (.var 1) (.lst (.cons (.isi (.var 0) ["InUse"]) (.cons (.isi (.var 0) ["OtherNames"]) (.cons (.isi (.var 0) ["Sticks"]) .nil))))))
  (.cons (.set 1 (.bin .add (.var 1) (.lst (.cons (.isi (.var 0) ["TooMany"]) (.cons (.isi (.var 0) ["NothingToUndo"]) (.cons (.isi (.var 0) ["NotAsked"]) .nil))))))
  (.cons (.set 1 (.bin .add (.var 1) (.lst (.cons (.isi (.var 0) ["Broken"]) .nil))))
  (.cons (.ret (.comp (.var 3) (.one 3) (.rng1 (.con (.int 22))) (.cons (.ix (.var 1) (.var 3)) .nil) [2, 3]))
  .nil)))))))))
def nb_law_sorts : List Str := ["_law_e", "_law_some", ".0", "_law_k"]
def b_law_bases : Ss :=
  (.cons (.set 1 (.lst (.cons (.isi (.var 0) ["BadValue"]) (.cons (.isi (.var 0) ["BadName"]) (.cons (.isi (.var 0) ["NoAnswer"]) .nil)))))
  (.cons (.set 1 (.bin .add (.var 1) (.lst (.cons (.isi (.var 0) ["ValueError"]) (.cons (.isi (.var 0) ["LookupError"]) (.cons (.isi (.var 0) ["ArithmeticError"]) .nil))))))
  (.cons (.ret (.comp (.var 3) (.one 3) (.rng1 (.con (.int 6))) (.cons (.ix (.var 1) (.var 3)) .nil) [2, 3]))
  .nil)))
def nb_law_bases : List Str := ["_law_e", "_law_some", ".0", "_law_k"]
def b_law_fits : Ss :=
  (.cons (.set 2 (.con (.int 0)))
  (.cons (.ite (.cmp .gt (.var 1) (.con (.int 13))) (.cons (.set 2 (.ite (.cmp .lt (.var 1) (.con (.int 16))) (.con (.int 1)) (.con (.int 2))))
  .nil) .nil)
  (.cons (.ret (.and (.cmp .eq (.call "_law_sorts" (.cons (.var 0) .nil) [] .nil) (.lst (.cons (.var 1) .nil))) (.cmp .eq (.call "_law_bases" (.cons (.var 0) .nil) [] .nil) (.lst (.cons (.var 2) (.cons (.bin .add (.var 2) (.con (.int 3))) .nil))))))
  .nil)))
def nb_law_fits : List Str := ["_law_e", "_law_at", "_law_base"]
def b_law_same : Ss :=
  (.cons (.ret (.and (.cmp .eq (.blt .repr (.cons (.var 0) .nil)) (.blt .repr (.cons (.var 1) .nil))) (.cmp .eq (.var 0) (.var 1))))
  .nil)
def nb_law_same : List Str := ["_law_told", "_law_thing"]
def b_law_near : Ss :=
  (.cons (.set 1 (.lst (.cons (.mk "InvalidBlocks" (.cons (.var 0) .nil) [] .nil) (.cons (.mk "InvalidPages" (.cons (.var 0) .nil) [] .nil) (.cons (.mk "InvalidNames" (.cons (.var 0) .nil) [] .nil) (.cons (.mk "InvalidPrice" (.cons (.var 0) .nil) [] .nil) .nil))))))
  (.cons (.set 1 (.bin .add (.var 1) (.lst (.cons (.mk "InvalidNumber" (.cons (.var 0) .nil) [] .nil) (.cons (.mk "InvalidFlag" (.cons (.var 0) .nil) [] .nil) (.cons (.mk "InvalidDrift" (.cons (.var 0) .nil) [] .nil) (.cons (.mk "InvalidText" (.cons (.var 0) .nil) [] .nil) .nil)))))))
  (.cons (.set 1 (.bin .add (.var 1) (.lst (.cons (.mk "InvalidName" (.cons (.var 0) .nil) [] .nil) (.cons (.mk "InvalidIndex" (.cons (.var 0) .nil) [] .nil) (.cons (.mk "InvalidClaim" (.cons (.var 0) .nil) [] .nil) (.cons (.mk "NotADrive" (.cons (.var 0) .nil) [] .nil) .nil)))))))
  (.cons (.ret (.bin .add (.comp (.tup (.cons (.var 3) (.cons (.ix (.var 1) (.var 3)) .nil))) (.one 3) (.rng1 (.con (.int 12))) .nil [2, 3]) (.lst (.cons (.tup (.cons (.con (.int 14)) (.cons (.mk "UnknownName" (.cons (.var 0) .nil) [] .nil) .nil))) .nil))))
  .nil))))
def nb_law_near : List Str := ["_law_thing", "_law_some", ".0", "_law_k"]
def b_law_far : Ss :=
  (.cons (.set 1 (.lst (.cons (.mk "InvalidBlocks" .nil ["given"] (.cons (.var 0) .nil)) (.cons (.mk "InvalidPages" .nil ["given"] (.cons (.var 0) .nil)) (.cons (.mk "InvalidNames" .nil ["given"] (.cons (.var 0) .nil)) .nil)))))
  (.cons (.set 1 (.bin .add (.var 1) (.lst (.cons (.mk "InvalidPrice" .nil ["given"] (.cons (.var 0) .nil)) (.cons (.mk "InvalidNumber" .nil ["given"] (.cons (.var 0) .nil)) (.cons (.mk "InvalidFlag" .nil ["given"] (.cons (.var 0) .nil)) .nil))))))
  (.cons (.set 1 (.bin .add (.var 1) (.lst (.cons (.mk "InvalidDrift" .nil ["given"] (.cons (.var 0) .nil)) (.cons (.mk "InvalidText" .nil ["given"] (.cons (.var 0) .nil)) (.cons (.mk "InvalidName" .nil ["given"] (.cons (.var 0) .nil)) .nil))))))
  (.cons (.set 1 (.bin .add (.var 1) (.lst (.cons (.mk "InvalidIndex" .nil ["given"] (.cons (.var 0) .nil)) (.cons (.mk "InvalidClaim" .nil ["given"] (.cons (.var 0) .nil)) (.cons (.mk "NotADrive" .nil ["given"] (.cons (.var 0) .nil)) .nil))))))
  (.cons (.ret (.bin .add (.comp (.tup (.cons (.var 3) (.cons (.ix (.var 1) (.var 3)) .nil))) (.one 3) (.rng1 (.con (.int 12))) .nil [2, 3]) (.lst (.cons (.tup (.cons (.con (.int 14)) (.cons (.mk "UnknownName" .nil ["given"] (.cons (.var 0) .nil)) .nil))) .nil))))
  .nil)))))
def nb_law_far : List Str := ["_law_thing", "_law_some", ".0", "_law_k"]
def b_law_counted : Ss :=
  (.cons (.set 1 (.lst (.cons (.tup (.cons (.con (.int 12)) (.cons (.mk "InvalidRows" (.cons (.var 0) .nil) [] .nil) .nil))) (.cons (.tup (.cons (.con (.int 12)) (.cons (.mk "InvalidRows" .nil ["index"] (.cons (.var 0) .nil)) .nil))) (.cons (.tup (.cons (.con (.int 13)) (.cons (.mk "InvalidLoad" (.cons (.var 0) .nil) [] .nil) .nil))) .nil)))))
  (.cons (.set 1 (.bin .add (.var 1) (.lst (.cons (.tup (.cons (.con (.int 13)) (.cons (.mk "InvalidLoad" .nil ["index"] (.cons (.var 0) .nil)) .nil))) (.cons (.tup (.cons (.con (.int 15)) (.cons (.mk "InUse" (.cons (.var 0) .nil) [] .nil) .nil))) (.cons (.tup (.cons (.con (.int 15)) (.cons (.mk "InUse" .nil ["index"] (.cons (.var 0) .nil)) .nil))) .nil))))))
  (.cons (.ret (.bin .add (.var 1) (.lst (.cons (.tup (.cons (.con (.int 20)) (.cons (.mk "NotAsked" (.cons (.var 0) .nil) [] .nil) .nil))) (.cons (.tup (.cons (.con (.int 20)) (.cons (.mk "NotAsked" .nil ["index"] (.cons (.var 0) .nil)) .nil))) .nil)))))
  .nil)))
def nb_law_counted : List Str := ["_law_thing", "_law_some"]
def b_law_one_right : Ss :=
  (.cons (.for_ (.two 2 3) (.seq (.bin .add (.call "_law_near" (.cons (.var 0) .nil) [] .nil) (.call "_law_far" (.cons (.var 0) .nil) [] .nil))) (.cons (.ite (.or (.not (.call "_law_fits" (.cons (.var 3) (.cons (.var 2) .nil)) [] .nil)) (.not (.call "_law_same" (.cons (.attr (.var 3) "given") (.cons (.var 0) .nil)) [] .nil))) (.cons (.ret (.con (.bl false)))
  .nil) .nil)
  .nil))
  (.cons (.for_ (.two 2 3) (.seq (.call "_law_counted" (.cons (.var 0) .nil) [] .nil)) (.cons (.ite (.or (.not (.call "_law_fits" (.cons (.var 3) (.cons (.var 2) .nil)) [] .nil)) (.not (.call "_law_same" (.cons (.attr (.var 3) "index") (.cons (.var 0) .nil)) [] .nil))) (.cons (.ret (.con (.bl false)))
  .nil) .nil)
  .nil))
  (.cons (.for_ (.one 3) (.seq (.lst (.cons (.mk "TooMany" (.cons (.var 0) .nil) [] .nil) (.cons (.mk "TooMany" .nil ["limit"] (.cons (.var 0) .nil)) .nil)))) (.cons (.ite (.or (.not (.call "_law_fits" (.cons (.var 3) (.cons (.con (.int 18)) .nil)) [] .nil)) (.not (.call "_law_same" (.cons (.attr (.var 3) "limit") (.cons (.var 0) .nil)) [] .nil))) (.cons (.ret (.con (.bl false)))
  .nil) .nil)
  .nil))
  (.cons (.for_ (.one 3) (.seq (.lst (.cons (.mk "Broken" (.cons (.var 0) (.cons (.var 1) .nil)) [] .nil) (.cons (.mk "Broken" .nil ["shown", "index"] (.cons (.var 1) (.cons (.var 0) .nil))) (.cons (.mk "Broken" (.cons (.var 0) .nil) ["shown"] (.cons (.var 1) .nil)) .nil))))) (.cons (.ite (.or (.not (.call "_law_fits" (.cons (.var 3) (.cons (.con (.int 21)) .nil)) [] .nil)) (.or (.not (.call "_law_same" (.cons (.attr (.var 3) "index") (.cons (.var 0) .nil)) [] .nil)) (.not (.call "_law_same" (.cons (.attr (.var 3) "shown") (.cons (.var 1) .nil)) [] .nil)))) (.cons (.ret (.con (.bl false)))
  .nil) .nil)
  .nil))
  (.cons (.ret (.con (.bl true)))
  .nil)))))
def nb_law_one_right : List Str := ["_law_thing", "_law_mate", "_law_at", "_law_e"]
def b_law_bare_right : Ss :=
  (.cons (.for_ (.two 0 1) (.seq (.lst (.cons (.tup (.cons (.con (.int 16)) (.cons (.mk "OtherNames" .nil [] .nil) .nil))) (.cons (.tup (.cons (.con (.int 17)) (.cons (.mk "Sticks" .nil [] .nil) .nil))) (.cons (.tup (.cons (.con (.int 19)) (.cons (.mk "NothingToUndo" .nil [] .nil) .nil))) .nil))))) (.cons (.ite (.not (.call "_law_fits" (.cons (.var 1) (.cons (.var 0) .nil)) [] .nil)) (.cons (.ret (.con (.bl false)))
  .nil) .nil)
  .nil))
  (.cons (.set 2 (.lst (.cons (.mk "BadValue" .nil [] .nil) (.cons (.mk "BadName" .nil [] .nil) (.cons (.mk "NoAnswer" .nil [] .nil) .nil)))))
  (.cons (.ret (.and (.cmp .eq (.comp (.call "_law_sorts" (.cons (.var 1) .nil) [] .nil) (.one 1) (.seq (.var 2)) .nil [3, 1]) (.lst (.cons (.lst .nil) (.cons (.lst .nil) (.cons (.lst .nil) .nil))))) (.cmp .eq (.comp (.call "_law_bases" (.cons (.var 1) .nil) [] .nil) (.one 1) (.seq (.var 2)) .nil [3, 1]) (.lst (.cons (.lst (.cons (.con (.int 0)) (.cons (.con (.int 3)) .nil))) (.cons (.lst (.cons (.con (.int 1)) (.cons (.con (.int 4)) .nil))) (.cons (.lst (.cons (.con (.int 2)) (.cons (.con (.int 5)) .nil))) .nil)))))))
  .nil)))
def nb_law_bare_right : List Str := ["_law_at", "_law_e", "_law_some", ".0"]
def blaw : Ss :=
  (.cons (.set 1 (.lst (.cons (.glob "LEAST_BLOCKS") (.cons (.glob "MOST_BLOCKS") (.cons (.glob "LEAST_PAGES") (.cons (.glob "MOST_PAGES") (.cons (.glob "MOST_ROWS") (.cons (.glob "MOST_PRICE") (.cons (.glob "MOST_EVENTS") (.cons (.glob "MOST_WRITES") .nil))))))))))
  (.cons (.ite (.cmp .ne (.blt .repr (.cons (.bin .add (.var 1) (.lst (.cons (.glob "MOST_STANDS") (.cons (.glob "MOST_JOINT") (.cons (.glob "MOST_PICKED") .nil))))) .nil)) (.con (.str "[3, 6, 2, 5, 4, 9, 2000, 500, 2000, 4000, 1000]"))) (.cons (.ret (.con (.bl false)))
  .nil) .nil)
  (.cons (.ite (.not (.call "_law_bare_right" .nil [] .nil)) (.cons (.ret (.con (.bl false)))
  .nil) .nil)
  (.cons (.for_ (.one 2) (.rng1 (.blt .max2 (.cons (.con (.int 2)) (.cons (.blt .min2 (.cons (.blt .len (.cons (.var 0) .nil)) (.cons (.con (.int 3)) .nil))) .nil)))) (.cons (.set 3 (.call "_law_things" (.cons (.call "_law_pool" (.cons (.call "_law_cell" (.cons (.var 0) (.cons (.var 2) .nil)) [] .nil) .nil) [] .nil) .nil) [] .nil))
  (.cons (.ite (.not (.blt .all (.cons (.comp (.call "_law_one_right" (.cons (.ix (.var 3) (.var 5)) (.cons (.ix (.var 3) (.bin .sub (.var 5) (.con (.int 1)))) .nil)) [] .nil) (.one 5) (.rng1 (.blt .len (.cons (.var 3) .nil))) .nil [4, 5]) .nil))) (.cons (.ret (.con (.bl false)))
  .nil) .nil)
  .nil)))
  (.cons (.ret (.con (.bl true)))
  .nil)))))
def nblaw : List Str := ["_law_cells", "_law_found", "_law_k", "_law_some", ".0", "_law_j"]
def conT : List (Str × D) := [("LEAST_BLOCKS", (.int 3)), ("MOST_BLOCKS", (.int 6)), ("LEAST_PAGES", (.int 2)), ("MOST_PAGES", (.int 5)), ("MOST_ROWS", (.int 4)), ("MOST_PRICE", (.int 9)), ("MOST_EVENTS", (.int 2000)), ("MOST_WRITES", (.int 500)), ("MOST_STANDS", (.int 2000)), ("MOST_JOINT", (.int 4000)), ("MOST_PICKED", (.int 1000))]
def fnT : List (Str × FDef) := [
  ("_law_cell", ⟨["_law_cells", "_law_k"], [((2, []), [.pos 0, .pos 1])], nb_law_cell.length, b_law_cell⟩),
  ("_law_pool", ⟨["_law_cell_here"], [((1, []), [.pos 0])], nb_law_pool.length, b_law_pool⟩),
  ("_law_draw", ⟨["_law_pool_here", "_law_many"], [((2, []), [.pos 0, .pos 1])], nb_law_draw.length, b_law_draw⟩),
  ("_law_word", ⟨["_law_pool_here"], [((1, []), [.pos 0])], nb_law_word.length, b_law_word⟩),
  ("_law_things", ⟨["_law_pool_here"], [((1, []), [.pos 0])], nb_law_things.length, b_law_things⟩),
  ("_law_sorts", ⟨["_law_e"], [((1, []), [.pos 0])], nb_law_sorts.length, b_law_sorts⟩),
  ("_law_bases", ⟨["_law_e"], [((1, []), [.pos 0])], nb_law_bases.length, b_law_bases⟩),
  ("_law_fits", ⟨["_law_e", "_law_at"], [((2, []), [.pos 0, .pos 1])], nb_law_fits.length, b_law_fits⟩),
  ("_law_same", ⟨["_law_told", "_law_thing"], [((2, []), [.pos 0, .pos 1])], nb_law_same.length, b_law_same⟩),
  ("_law_near", ⟨["_law_thing"], [((1, []), [.pos 0])], nb_law_near.length, b_law_near⟩),
  ("_law_far", ⟨["_law_thing"], [((1, []), [.pos 0])], nb_law_far.length, b_law_far⟩),
  ("_law_counted", ⟨["_law_thing"], [((1, []), [.pos 0])], nb_law_counted.length, b_law_counted⟩),
  ("_law_one_right", ⟨["_law_thing", "_law_mate"], [((2, []), [.pos 0, .pos 1])], nb_law_one_right.length, b_law_one_right⟩),
  ("_law_bare_right", ⟨[], [((0, []), [])], nb_law_bare_right.length, b_law_bare_right⟩),
  ("law", ⟨["_law_cells"], [((1, []), [.pos 0])], nblaw.length, blaw⟩)]
def clsT : List (Str × CDef) := [
  ("BadValue", ⟨some ([], [((0, []), [])]), ["BadValue", "ValueError"], [], [], []⟩),
  ("InvalidBlocks", ⟨some (["given"], [((1, []), [.pos 0]), ((0, ["given"]), [.kw 0])]), ["InvalidBlocks", "BadValue", "ValueError"], [], ["given"], []⟩),
  ("InvalidPages", ⟨some (["given"], [((1, []), [.pos 0]), ((0, ["given"]), [.kw 0])]), ["InvalidPages", "BadValue", "ValueError"], [], ["given"], []⟩),
  ("InvalidNames", ⟨some (["given"], [((1, []), [.pos 0]), ((0, ["given"]), [.kw 0])]), ["InvalidNames", "BadValue", "ValueError"], [], ["given"], []⟩),
  ("InvalidPrice", ⟨some (["given"], [((1, []), [.pos 0]), ((0, ["given"]), [.kw 0])]), ["InvalidPrice", "BadValue", "ValueError"], [], ["given"], []⟩),
  ("InvalidNumber", ⟨some (["given"], [((1, []), [.pos 0]), ((0, ["given"]), [.kw 0])]), ["InvalidNumber", "BadValue", "ValueError"], [], ["given"], []⟩),
  ("InvalidFlag", ⟨some (["given"], [((1, []), [.pos 0]), ((0, ["given"]), [.kw 0])]), ["InvalidFlag", "BadValue", "ValueError"], [], ["given"], []⟩),
  ("InvalidDrift", ⟨some (["given"], [((1, []), [.pos 0]), ((0, ["given"]), [.kw 0])]), ["InvalidDrift", "BadValue", "ValueError"], [], ["given"], []⟩),
  ("InvalidText", ⟨some (["given"], [((1, []), [.pos 0]), ((0, ["given"]), [.kw 0])]), ["InvalidText", "BadValue", "ValueError"], [], ["given"], []⟩),
  ("InvalidName", ⟨some (["given"], [((1, []), [.pos 0]), ((0, ["given"]), [.kw 0])]), ["InvalidName", "BadValue", "ValueError"], [], ["given"], []⟩),
  ("InvalidIndex", ⟨some (["given"], [((1, []), [.pos 0]), ((0, ["given"]), [.kw 0])]), ["InvalidIndex", "BadValue", "ValueError"], [], ["given"], []⟩),
  ("InvalidClaim", ⟨some (["given"], [((1, []), [.pos 0]), ((0, ["given"]), [.kw 0])]), ["InvalidClaim", "BadValue", "ValueError"], [], ["given"], []⟩),
  ("NotADrive", ⟨some (["given"], [((1, []), [.pos 0]), ((0, ["given"]), [.kw 0])]), ["NotADrive", "BadValue", "ValueError"], [], ["given"], []⟩),
  ("InvalidRows", ⟨some (["index"], [((1, []), [.pos 0]), ((0, ["index"]), [.kw 0])]), ["InvalidRows", "BadValue", "ValueError"], [], ["index"], []⟩),
  ("InvalidLoad", ⟨some (["index"], [((1, []), [.pos 0]), ((0, ["index"]), [.kw 0])]), ["InvalidLoad", "BadValue", "ValueError"], [], ["index"], []⟩),
  ("BadName", ⟨some ([], [((0, []), [])]), ["BadName", "LookupError"], [], [], []⟩),
  ("UnknownName", ⟨some (["given"], [((1, []), [.pos 0]), ((0, ["given"]), [.kw 0])]), ["UnknownName", "BadName", "LookupError"], [], ["given"], []⟩),
  ("InUse", ⟨some (["index"], [((1, []), [.pos 0]), ((0, ["index"]), [.kw 0])]), ["InUse", "BadName", "LookupError"], [], ["index"], []⟩),
  ("NoAnswer", ⟨some ([], [((0, []), [])]), ["NoAnswer", "ArithmeticError"], [], [], []⟩),
  ("OtherNames", ⟨some ([], [((0, []), [])]), ["OtherNames", "NoAnswer", "ArithmeticError"], [], [], []⟩),
  ("Sticks", ⟨some ([], [((0, []), [])]), ["Sticks", "NoAnswer", "ArithmeticError"], [], [], []⟩),
  ("TooMany", ⟨some (["limit"], [((1, []), [.pos 0]), ((0, ["limit"]), [.kw 0])]), ["TooMany", "NoAnswer", "ArithmeticError"], [], ["limit"], []⟩),
  ("NothingToUndo", ⟨some ([], [((0, []), [])]), ["NothingToUndo", "NoAnswer", "ArithmeticError"], [], [], []⟩),
  ("NotAsked", ⟨some (["index"], [((1, []), [.pos 0]), ((0, ["index"]), [.kw 0])]), ["NotAsked", "NoAnswer", "ArithmeticError"], [], ["index"], []⟩),
  ("Broken", ⟨some (["shown", "index"], [((2, []), [.pos 1, .pos 0]), ((1, ["shown"]), [.kw 0, .pos 0]), ((0, ["shown", "index"]), [.kw 0, .kw 1])]), ["Broken", "NoAnswer", "ArithmeticError"], [], ["index", "shown"], []⟩)]
def tnT : List Str := ["BadValue", "InvalidBlocks", "InvalidPages", "InvalidNames", "InvalidPrice", "InvalidNumber", "InvalidFlag", "InvalidDrift", "InvalidText", "InvalidName", "InvalidIndex", "InvalidClaim", "NotADrive", "InvalidRows", "InvalidLoad", "BadName", "UnknownName", "InUse", "NoAnswer", "OtherNames", "Sticks", "TooMany", "NothingToUndo", "NotAsked", "Broken"]
def cnT : List Str := ["BadValue", "InvalidBlocks", "InvalidPages", "InvalidNames", "InvalidPrice", "InvalidNumber", "InvalidFlag", "InvalidDrift", "InvalidText", "InvalidName", "InvalidIndex", "InvalidClaim", "NotADrive", "InvalidRows", "InvalidLoad", "BadName", "UnknownName", "InUse", "NoAnswer", "OtherNames", "Sticks", "TooMany", "NothingToUndo", "NotAsked", "Broken", "ValueError", "LookupError", "ArithmeticError"]
def T : Tab := ⟨conT, fnT, clsT, tnT, cnT⟩
end K01
set_option maxHeartbeats 0
/-! K01: the table of law_k01, the head. The bodies are printed by wip/tool/GenK01.lean. -/
namespace K01
open PySem PySem.Spec PyProof.Rows L2 Am
abbrev prog : Program := PySem.Challenge.pw_spareblocks_k01_limits_and_errors
def top (i : Nat) : Stmt := prog.main.body.getD i (.Pass ⟨0, 0, 0, 0⟩)
/-- the def __init__ of the class at i -/
def ini (i : Nat) : Stmt := match top i with
  | .ClassDef _ _ _ (s :: _) _ _ _ _ _ _ _ => s
  | s => s
def dF (i : Nat) (x : Str) : He.DefD := ⟨(x, none), x, x, defArgs (top i), defBody (top i), defScope (top i), [], []⟩
def dM (i : Nat) (C : Str) : He.DefD := ⟨(C, some "__init__"), "__init__", C ++ ".__init__", defArgs (ini i), defBody (ini i), defScope (ini i), [], []⟩
def blts : List Str := ["len", "abs", "int", "repr", "list", "tuple", "sum", "all", "any", "str", "max", "min", "isinstance", "range", "enumerate", "zip"]
def paths : Paths := [("_law_cell", ("_law_cell", none)), ("_law_pool", ("_law_pool", none)), ("_law_draw", ("_law_draw", none)), ("_law_word", ("_law_word", none)), ("_law_things", ("_law_things", none)), ("_law_sorts", ("_law_sorts", none)), ("_law_bases", ("_law_bases", none)), ("_law_fits", ("_law_fits", none)), ("_law_same", ("_law_same", none)), ("_law_near", ("_law_near", none)), ("_law_far", ("_law_far", none)), ("_law_counted", ("_law_counted", none)), ("_law_one_right", ("_law_one_right", none)), ("_law_bare_right", ("_law_bare_right", none)), ("law", ("law", none))]
def fnD : List He.DefD := [
  dF 38 "_law_cell",
  dF 39 "_law_pool",
  dF 40 "_law_draw",
  dF 41 "_law_word",
  dF 42 "_law_things",
  dF 43 "_law_sorts",
  dF 44 "_law_bases",
  dF 45 "_law_fits",
  dF 46 "_law_same",
  dF 47 "_law_near",
  dF 48 "_law_far",
  dF 49 "_law_counted",
  dF 50 "_law_one_right",
  dF 51 "_law_bare_right",
  dF 52 "law",
  dM 2 "InvalidBlocks",
  dM 3 "InvalidPages",
  dM 4 "InvalidNames",
  dM 5 "InvalidPrice",
  dM 6 "InvalidNumber",
  dM 7 "InvalidFlag",
  dM 8 "InvalidDrift",
  dM 9 "InvalidText",
  dM 10 "InvalidName",
  dM 11 "InvalidIndex",
  dM 12 "InvalidClaim",
  dM 13 "NotADrive",
  dM 14 "InvalidRows",
  dM 15 "InvalidLoad",
  dM 17 "UnknownName",
  dM 18 "InUse",
  dM 22 "TooMany",
  dM 24 "NotAsked",
  dM 25 "Broken"]
def loose0 : List Str := ["__name__", "BadValue", "InvalidBlocks", "InvalidPages", "InvalidNames", "InvalidPrice", "InvalidNumber", "InvalidFlag", "InvalidDrift", "InvalidText", "InvalidName", "InvalidIndex", "InvalidClaim", "NotADrive", "InvalidRows", "InvalidLoad", "BadName", "UnknownName", "InUse", "NoAnswer", "OtherNames", "Sticks", "TooMany", "NothingToUndo", "NotAsked", "Broken", "LEAST_BLOCKS", "MOST_BLOCKS", "LEAST_PAGES", "MOST_PAGES"]
def loose1 : List Str := ["MOST_ROWS", "MOST_PRICE", "MOST_EVENTS", "MOST_WRITES", "MOST_STANDS", "MOST_JOINT", "MOST_PICKED", "_law_cell", "_law_pool", "_law_draw", "_law_word", "_law_things", "_law_sorts", "_law_bases", "_law_fits", "_law_same", "_law_near", "_law_far", "_law_counted", "_law_one_right", "_law_bare_right"]
def loose : List Str := loose0 ++ loose1
abbrev hk : PySem.W.Hook := hookX 5 (sfB T paths blts) [] fnD
def ob (s : PySem.W.SharedT) : AlX := obsXG 5 (sfB T paths blts) [] fnD (HandSHeadRun.getT s)
theorem ob_eq (s : PySem.W.SharedT) : ob s = hk.obs s.abs := obsXG_eq (HandSHeadRun.getT_eq s)
abbrev R : PySem.W.OpenRow := PySem.W.OpenLaw.row PySem.Challenge.rw_spareblocks_k01_limits_and_errors
theorem run_eq (w : World) : HandSHeadRun.RunEq R (PySem.W.view R.prog [52]) hk ob 8000 loose w := by
  intro os
  kernel_rfl
end K01
set_option maxHeartbeats 0
/-! K01F: the facts of law_k01's table (printed by wip/tool/mkfacts.py). -/
namespace K01
open PySem PySem.Spec PyProof.Rows L2 Am
section
variable {K : PySem.W.Frag}
theorem def_0 (c : He.SaysD [] fnD K) : DefOk K T blts ((fnT.getD 0 ("", ⟨[], [], 0, .nil⟩)).2) (He.fAd K ("_law_cell", none)) := by
  obtain ⟨fd, F⟩ := c.def_ 0 (d := dF 38 "_law_cell") rfl
  exact ⟨⟨_, _, _, _, _, _, _, fd, nb_law_cell, 40, (omap (trS T blts 40 ⟨nb_law_cell, defScope (top 38), fun _ => true⟩) (defBody (top 38))).getD [], F, ⟨rfl, rfl, rfl, by decide +kernel, rfl, by decide +kernel, by decide +kernel⟩, rfl, by kernel_rfl, by kernel_rfl,
    shp_pos (k := 2) rfl fun s us h => FunD.bindsA F (fun _ _ _ _ _ _ us hl => match us, hl with | [_, _], _ => rfl) s us h⟩⟩
theorem def_1 (c : He.SaysD [] fnD K) : DefOk K T blts ((fnT.getD 1 ("", ⟨[], [], 0, .nil⟩)).2) (He.fAd K ("_law_pool", none)) := by
  obtain ⟨fd, F⟩ := c.def_ 1 (d := dF 39 "_law_pool") rfl
  exact ⟨⟨_, _, _, _, _, _, _, fd, nb_law_pool, 40, (omap (trS T blts 40 ⟨nb_law_pool, defScope (top 39), fun _ => true⟩) (defBody (top 39))).getD [], F, ⟨rfl, rfl, rfl, by decide +kernel, rfl, by decide +kernel, by decide +kernel⟩, rfl, by kernel_rfl, by kernel_rfl,
    shp_pos (k := 1) rfl fun s us h => FunD.bindsA F (fun _ _ _ _ _ _ us hl => match us, hl with | [_], _ => rfl) s us h⟩⟩
theorem def_2 (c : He.SaysD [] fnD K) : DefOk K T blts ((fnT.getD 2 ("", ⟨[], [], 0, .nil⟩)).2) (He.fAd K ("_law_draw", none)) := by
  obtain ⟨fd, F⟩ := c.def_ 2 (d := dF 40 "_law_draw") rfl
  exact ⟨⟨_, _, _, _, _, _, _, fd, nb_law_draw, 40, (omap (trS T blts 40 ⟨nb_law_draw, defScope (top 40), fun _ => true⟩) (defBody (top 40))).getD [], F, ⟨rfl, rfl, rfl, by decide +kernel, rfl, by decide +kernel, by decide +kernel⟩, rfl, by kernel_rfl, by kernel_rfl,
    shp_pos (k := 2) rfl fun s us h => FunD.bindsA F (fun _ _ _ _ _ _ us hl => match us, hl with | [_, _], _ => rfl) s us h⟩⟩
theorem def_3 (c : He.SaysD [] fnD K) : DefOk K T blts ((fnT.getD 3 ("", ⟨[], [], 0, .nil⟩)).2) (He.fAd K ("_law_word", none)) := by
  obtain ⟨fd, F⟩ := c.def_ 3 (d := dF 41 "_law_word") rfl
  exact ⟨⟨_, _, _, _, _, _, _, fd, nb_law_word, 40, (omap (trS T blts 40 ⟨nb_law_word, defScope (top 41), fun _ => true⟩) (defBody (top 41))).getD [], F, ⟨rfl, rfl, rfl, by decide +kernel, rfl, by decide +kernel, by decide +kernel⟩, rfl, by kernel_rfl, by kernel_rfl,
    shp_pos (k := 1) rfl fun s us h => FunD.bindsA F (fun _ _ _ _ _ _ us hl => match us, hl with | [_], _ => rfl) s us h⟩⟩
theorem def_4 (c : He.SaysD [] fnD K) : DefOk K T blts ((fnT.getD 4 ("", ⟨[], [], 0, .nil⟩)).2) (He.fAd K ("_law_things", none)) := by
  obtain ⟨fd, F⟩ := c.def_ 4 (d := dF 42 "_law_things") rfl
  exact ⟨⟨_, _, _, _, _, _, _, fd, nb_law_things, 40, (omap (trS T blts 40 ⟨nb_law_things, defScope (top 42), fun _ => true⟩) (defBody (top 42))).getD [], F, ⟨rfl, rfl, rfl, by decide +kernel, rfl, by decide +kernel, by decide +kernel⟩, rfl, by kernel_rfl, by kernel_rfl,
    shp_pos (k := 1) rfl fun s us h => FunD.bindsA F (fun _ _ _ _ _ _ us hl => match us, hl with | [_], _ => rfl) s us h⟩⟩
theorem def_5 (c : He.SaysD [] fnD K) : DefOk K T blts ((fnT.getD 5 ("", ⟨[], [], 0, .nil⟩)).2) (He.fAd K ("_law_sorts", none)) := by
  obtain ⟨fd, F⟩ := c.def_ 5 (d := dF 43 "_law_sorts") rfl
  exact ⟨⟨_, _, _, _, _, _, _, fd, nb_law_sorts, 40, (omap (trS T blts 40 ⟨nb_law_sorts, defScope (top 43), fun _ => true⟩) (defBody (top 43))).getD [], F, ⟨rfl, rfl, rfl, by decide +kernel, rfl, by decide +kernel, by decide +kernel⟩, rfl, by kernel_rfl, by kernel_rfl,
    shp_pos (k := 1) rfl fun s us h => FunD.bindsA F (fun _ _ _ _ _ _ us hl => match us, hl with | [_], _ => rfl) s us h⟩⟩
theorem def_6 (c : He.SaysD [] fnD K) : DefOk K T blts ((fnT.getD 6 ("", ⟨[], [], 0, .nil⟩)).2) (He.fAd K ("_law_bases", none)) := by
  obtain ⟨fd, F⟩ := c.def_ 6 (d := dF 44 "_law_bases") rfl
  exact ⟨⟨_, _, _, _, _, _, _, fd, nb_law_bases, 40, (omap (trS T blts 40 ⟨nb_law_bases, defScope (top 44), fun _ => true⟩) (defBody (top 44))).getD [], F, ⟨rfl, rfl, rfl, by decide +kernel, rfl, by decide +kernel, by decide +kernel⟩, rfl, by kernel_rfl, by kernel_rfl,
    shp_pos (k := 1) rfl fun s us h => FunD.bindsA F (fun _ _ _ _ _ _ us hl => match us, hl with | [_], _ => rfl) s us h⟩⟩
theorem def_7 (c : He.SaysD [] fnD K) : DefOk K T blts ((fnT.getD 7 ("", ⟨[], [], 0, .nil⟩)).2) (He.fAd K ("_law_fits", none)) := by
  obtain ⟨fd, F⟩ := c.def_ 7 (d := dF 45 "_law_fits") rfl
  exact ⟨⟨_, _, _, _, _, _, _, fd, nb_law_fits, 40, (omap (trS T blts 40 ⟨nb_law_fits, defScope (top 45), fun _ => true⟩) (defBody (top 45))).getD [], F, ⟨rfl, rfl, rfl, by decide +kernel, rfl, by decide +kernel, by decide +kernel⟩, rfl, by kernel_rfl, by kernel_rfl,
    shp_pos (k := 2) rfl fun s us h => FunD.bindsA F (fun _ _ _ _ _ _ us hl => match us, hl with | [_, _], _ => rfl) s us h⟩⟩
theorem def_8 (c : He.SaysD [] fnD K) : DefOk K T blts ((fnT.getD 8 ("", ⟨[], [], 0, .nil⟩)).2) (He.fAd K ("_law_same", none)) := by
  obtain ⟨fd, F⟩ := c.def_ 8 (d := dF 46 "_law_same") rfl
  exact ⟨⟨_, _, _, _, _, _, _, fd, nb_law_same, 40, (omap (trS T blts 40 ⟨nb_law_same, defScope (top 46), fun _ => true⟩) (defBody (top 46))).getD [], F, ⟨rfl, rfl, rfl, by decide +kernel, rfl, by decide +kernel, by decide +kernel⟩, rfl, by kernel_rfl, by kernel_rfl,
    shp_pos (k := 2) rfl fun s us h => FunD.bindsA F (fun _ _ _ _ _ _ us hl => match us, hl with | [_, _], _ => rfl) s us h⟩⟩
theorem def_9 (c : He.SaysD [] fnD K) : DefOk K T blts ((fnT.getD 9 ("", ⟨[], [], 0, .nil⟩)).2) (He.fAd K ("_law_near", none)) := by
  obtain ⟨fd, F⟩ := c.def_ 9 (d := dF 47 "_law_near") rfl
  exact ⟨⟨_, _, _, _, _, _, _, fd, nb_law_near, 40, (omap (trS T blts 40 ⟨nb_law_near, defScope (top 47), fun _ => true⟩) (defBody (top 47))).getD [], F, ⟨rfl, rfl, rfl, by decide +kernel, rfl, by decide +kernel, by decide +kernel⟩, rfl, by kernel_rfl, by kernel_rfl,
    shp_pos (k := 1) rfl fun s us h => FunD.bindsA F (fun _ _ _ _ _ _ us hl => match us, hl with | [_], _ => rfl) s us h⟩⟩
theorem def_10 (c : He.SaysD [] fnD K) : DefOk K T blts ((fnT.getD 10 ("", ⟨[], [], 0, .nil⟩)).2) (He.fAd K ("_law_far", none)) := by
  obtain ⟨fd, F⟩ := c.def_ 10 (d := dF 48 "_law_far") rfl
  exact ⟨⟨_, _, _, _, _, _, _, fd, nb_law_far, 40, (omap (trS T blts 40 ⟨nb_law_far, defScope (top 48), fun _ => true⟩) (defBody (top 48))).getD [], F, ⟨rfl, rfl, rfl, by decide +kernel, rfl, by decide +kernel, by decide +kernel⟩, rfl, by kernel_rfl, by kernel_rfl,
    shp_pos (k := 1) rfl fun s us h => FunD.bindsA F (fun _ _ _ _ _ _ us hl => match us, hl with | [_], _ => rfl) s us h⟩⟩
theorem def_11 (c : He.SaysD [] fnD K) : DefOk K T blts ((fnT.getD 11 ("", ⟨[], [], 0, .nil⟩)).2) (He.fAd K ("_law_counted", none)) := by
  obtain ⟨fd, F⟩ := c.def_ 11 (d := dF 49 "_law_counted") rfl
  exact ⟨⟨_, _, _, _, _, _, _, fd, nb_law_counted, 40, (omap (trS T blts 40 ⟨nb_law_counted, defScope (top 49), fun _ => true⟩) (defBody (top 49))).getD [], F, ⟨rfl, rfl, rfl, by decide +kernel, rfl, by decide +kernel, by decide +kernel⟩, rfl, by kernel_rfl, by kernel_rfl,
    shp_pos (k := 1) rfl fun s us h => FunD.bindsA F (fun _ _ _ _ _ _ us hl => match us, hl with | [_], _ => rfl) s us h⟩⟩
theorem def_12 (c : He.SaysD [] fnD K) : DefOk K T blts ((fnT.getD 12 ("", ⟨[], [], 0, .nil⟩)).2) (He.fAd K ("_law_one_right", none)) := by
  obtain ⟨fd, F⟩ := c.def_ 12 (d := dF 50 "_law_one_right") rfl
  exact ⟨⟨_, _, _, _, _, _, _, fd, nb_law_one_right, 40, (omap (trS T blts 40 ⟨nb_law_one_right, defScope (top 50), fun _ => true⟩) (defBody (top 50))).getD [], F, ⟨rfl, rfl, rfl, by decide +kernel, rfl, by decide +kernel, by decide +kernel⟩, rfl, by kernel_rfl, by kernel_rfl,
    shp_pos (k := 2) rfl fun s us h => FunD.bindsA F (fun _ _ _ _ _ _ us hl => match us, hl with | [_, _], _ => rfl) s us h⟩⟩
theorem def_13 (c : He.SaysD [] fnD K) : DefOk K T blts ((fnT.getD 13 ("", ⟨[], [], 0, .nil⟩)).2) (He.fAd K ("_law_bare_right", none)) := by
  obtain ⟨fd, F⟩ := c.def_ 13 (d := dF 51 "_law_bare_right") rfl
  exact ⟨⟨_, _, _, _, _, _, _, fd, nb_law_bare_right, 40, (omap (trS T blts 40 ⟨nb_law_bare_right, defScope (top 51), fun _ => true⟩) (defBody (top 51))).getD [], F, ⟨rfl, rfl, rfl, by decide +kernel, rfl, by decide +kernel, by decide +kernel⟩, rfl, by kernel_rfl, by kernel_rfl,
    shp_pos (k := 0) rfl fun s us h => FunD.bindsA F (fun _ _ _ _ _ _ us hl => match us, hl with | [], _ => rfl) s us h⟩⟩
theorem def_14 (c : He.SaysD [] fnD K) : DefOk K T blts ((fnT.getD 14 ("", ⟨[], [], 0, .nil⟩)).2) (He.fAd K ("law", none)) := by
  obtain ⟨fd, F⟩ := c.def_ 14 (d := dF 52 "law") rfl
  exact ⟨⟨_, _, _, _, _, _, _, fd, nblaw, 40, (omap (trS T blts 40 ⟨nblaw, defScope (top 52), fun _ => true⟩) (defBody (top 52))).getD [], F, ⟨rfl, rfl, rfl, by decide +kernel, rfl, by decide +kernel, by decide +kernel⟩, rfl, by kernel_rfl, by kernel_rfl,
    shp_pos (k := 1) rfl fun s us h => FunD.bindsA F (fun _ _ _ _ _ _ us hl => match us, hl with | [_], _ => rfl) s us h⟩⟩
end
end K01
set_option maxHeartbeats 0
/-! K01E: the exceptions of law_k01's table (printed by wip/tool/mkexc.py). -/
namespace K01
open PySem PySem.Spec PyProof.Rows L2 Am
section
variable {K : PySem.W.Frag}
def sh1 (p : Str) : Shp := [((1, []), [.pos 0]), ((0, [p]), [.kw 0])]
def sh2 (p q : Str) : Shp := [((2, []), [.pos 1, .pos 0]), ((1, [q]), [.kw 0, .pos 0]), ((0, [q, p]), [.kw 0, .kw 1])]
theorem exc_InvalidBlocks (c : He.SaysD [] fnD K) (h : iniB K (["given"], sh1 "given") (He.ga K "InvalidBlocks") = true) : ExcDef K (["given"], sh1 "given") (He.ga K "InvalidBlocks") := by
  obtain ⟨fd, F⟩ := c.def_ 15 (d := dM 2 "InvalidBlocks") rfl
  obtain ⟨h1, h⟩ := He.ba h
  obtain ⟨h2, h3⟩ := He.ba h
  exact ⟨_, _, _, _, _, "self", fd, He.eqO_ok h1, of_decide_eq_true h2, F, ⟨rfl, rfl, rfl, by decide +kernel, rfl, by decide +kernel, by decide +kernel⟩, by simp, by simp, by decide +kernel, by decide +kernel,
    fun r hr => He.eqO_ok (List.all_eq_true.mp h3 r (List.mem_reverse.mp hr)), .cons ⟨_, _, _, _, rfl⟩ .nil,
    shp_cons rfl (fun s us ws h1 h2 => match us, ws, h1, h2 with | [a, b], [], _, _ => ⟨[a, b], .cons rfl (.cons rfl .nil), funD_binds F (fun _ _ _ _ _ _ => rfl) s⟩)
    (shp_cons rfl (fun s us ws h1 h2 => match us, ws, h1, h2 with | [a], [b], _, _ => ⟨[a, b], .cons rfl (.cons rfl .nil), funD_binds F (fun _ _ _ _ _ _ => rfl) s⟩) shp_nil)⟩
theorem exc_InvalidPages (c : He.SaysD [] fnD K) (h : iniB K (["given"], sh1 "given") (He.ga K "InvalidPages") = true) : ExcDef K (["given"], sh1 "given") (He.ga K "InvalidPages") := by
  obtain ⟨fd, F⟩ := c.def_ 16 (d := dM 3 "InvalidPages") rfl
  obtain ⟨h1, h⟩ := He.ba h
  obtain ⟨h2, h3⟩ := He.ba h
  exact ⟨_, _, _, _, _, "self", fd, He.eqO_ok h1, of_decide_eq_true h2, F, ⟨rfl, rfl, rfl, by decide +kernel, rfl, by decide +kernel, by decide +kernel⟩, by simp, by simp, by decide +kernel, by decide +kernel,
    fun r hr => He.eqO_ok (List.all_eq_true.mp h3 r (List.mem_reverse.mp hr)), .cons ⟨_, _, _, _, rfl⟩ .nil,
    shp_cons rfl (fun s us ws h1 h2 => match us, ws, h1, h2 with | [a, b], [], _, _ => ⟨[a, b], .cons rfl (.cons rfl .nil), funD_binds F (fun _ _ _ _ _ _ => rfl) s⟩)
    (shp_cons rfl (fun s us ws h1 h2 => match us, ws, h1, h2 with | [a], [b], _, _ => ⟨[a, b], .cons rfl (.cons rfl .nil), funD_binds F (fun _ _ _ _ _ _ => rfl) s⟩) shp_nil)⟩
theorem exc_InvalidNames (c : He.SaysD [] fnD K) (h : iniB K (["given"], sh1 "given") (He.ga K "InvalidNames") = true) : ExcDef K (["given"], sh1 "given") (He.ga K "InvalidNames") := by
  obtain ⟨fd, F⟩ := c.def_ 17 (d := dM 4 "InvalidNames") rfl
  obtain ⟨h1, h⟩ := He.ba h
  obtain ⟨h2, h3⟩ := He.ba h
  exact ⟨_, _, _, _, _, "self", fd, He.eqO_ok h1, of_decide_eq_true h2, F, ⟨rfl, rfl, rfl, by decide +kernel, rfl, by decide +kernel, by decide +kernel⟩, by simp, by simp, by decide +kernel, by decide +kernel,
    fun r hr => He.eqO_ok (List.all_eq_true.mp h3 r (List.mem_reverse.mp hr)), .cons ⟨_, _, _, _, rfl⟩ .nil,
    shp_cons rfl (fun s us ws h1 h2 => match us, ws, h1, h2 with | [a, b], [], _, _ => ⟨[a, b], .cons rfl (.cons rfl .nil), funD_binds F (fun _ _ _ _ _ _ => rfl) s⟩)
    (shp_cons rfl (fun s us ws h1 h2 => match us, ws, h1, h2 with | [a], [b], _, _ => ⟨[a, b], .cons rfl (.cons rfl .nil), funD_binds F (fun _ _ _ _ _ _ => rfl) s⟩) shp_nil)⟩
theorem exc_InvalidPrice (c : He.SaysD [] fnD K) (h : iniB K (["given"], sh1 "given") (He.ga K "InvalidPrice") = true) : ExcDef K (["given"], sh1 "given") (He.ga K "InvalidPrice") := by
  obtain ⟨fd, F⟩ := c.def_ 18 (d := dM 5 "InvalidPrice") rfl
  obtain ⟨h1, h⟩ := He.ba h
  obtain ⟨h2, h3⟩ := He.ba h
  exact ⟨_, _, _, _, _, "self", fd, He.eqO_ok h1, of_decide_eq_true h2, F, ⟨rfl, rfl, rfl, by decide +kernel, rfl, by decide +kernel, by decide +kernel⟩, by simp, by simp, by decide +kernel, by decide +kernel,
    fun r hr => He.eqO_ok (List.all_eq_true.mp h3 r (List.mem_reverse.mp hr)), .cons ⟨_, _, _, _, rfl⟩ .nil,
    shp_cons rfl (fun s us ws h1 h2 => match us, ws, h1, h2 with | [a, b], [], _, _ => ⟨[a, b], .cons rfl (.cons rfl .nil), funD_binds F (fun _ _ _ _ _ _ => rfl) s⟩)
    (shp_cons rfl (fun s us ws h1 h2 => match us, ws, h1, h2 with | [a], [b], _, _ => ⟨[a, b], .cons rfl (.cons rfl .nil), funD_binds F (fun _ _ _ _ _ _ => rfl) s⟩) shp_nil)⟩
theorem exc_InvalidNumber (c : He.SaysD [] fnD K) (h : iniB K (["given"], sh1 "given") (He.ga K "InvalidNumber") = true) : ExcDef K (["given"], sh1 "given") (He.ga K "InvalidNumber") := by
  obtain ⟨fd, F⟩ := c.def_ 19 (d := dM 6 "InvalidNumber") rfl
  obtain ⟨h1, h⟩ := He.ba h
  obtain ⟨h2, h3⟩ := He.ba h
  exact ⟨_, _, _, _, _, "self", fd, He.eqO_ok h1, of_decide_eq_true h2, F, ⟨rfl, rfl, rfl, by decide +kernel, rfl, by decide +kernel, by decide +kernel⟩, by simp, by simp, by decide +kernel, by decide +kernel,
    fun r hr => He.eqO_ok (List.all_eq_true.mp h3 r (List.mem_reverse.mp hr)), .cons ⟨_, _, _, _, rfl⟩ .nil,
    shp_cons rfl (fun s us ws h1 h2 => match us, ws, h1, h2 with | [a, b], [], _, _ => ⟨[a, b], .cons rfl (.cons rfl .nil), funD_binds F (fun _ _ _ _ _ _ => rfl) s⟩)
    (shp_cons rfl (fun s us ws h1 h2 => match us, ws, h1, h2 with | [a], [b], _, _ => ⟨[a, b], .cons rfl (.cons rfl .nil), funD_binds F (fun _ _ _ _ _ _ => rfl) s⟩) shp_nil)⟩
theorem exc_InvalidFlag (c : He.SaysD [] fnD K) (h : iniB K (["given"], sh1 "given") (He.ga K "InvalidFlag") = true) : ExcDef K (["given"], sh1 "given") (He.ga K "InvalidFlag") := by
  obtain ⟨fd, F⟩ := c.def_ 20 (d := dM 7 "InvalidFlag") rfl
  obtain ⟨h1, h⟩ := He.ba h
  obtain ⟨h2, h3⟩ := He.ba h
  exact ⟨_, _, _, _, _, "self", fd, He.eqO_ok h1, of_decide_eq_true h2, F, ⟨rfl, rfl, rfl, by decide +kernel, rfl, by decide +kernel, by decide +kernel⟩, by simp, by simp, by decide +kernel, by decide +kernel,
    fun r hr => He.eqO_ok (List.all_eq_true.mp h3 r (List.mem_reverse.mp hr)), .cons ⟨_, _, _, _, rfl⟩ .nil,
    shp_cons rfl (fun s us ws h1 h2 => match us, ws, h1, h2 with | [a, b], [], _, _ => ⟨[a, b], .cons rfl (.cons rfl .nil), funD_binds F (fun _ _ _ _ _ _ => rfl) s⟩)
    (shp_cons rfl (fun s us ws h1 h2 => match us, ws, h1, h2 with | [a], [b], _, _ => ⟨[a, b], .cons rfl (.cons rfl .nil), funD_binds F (fun _ _ _ _ _ _ => rfl) s⟩) shp_nil)⟩
theorem exc_InvalidDrift (c : He.SaysD [] fnD K) (h : iniB K (["given"], sh1 "given") (He.ga K "InvalidDrift") = true) : ExcDef K (["given"], sh1 "given") (He.ga K "InvalidDrift") := by
  obtain ⟨fd, F⟩ := c.def_ 21 (d := dM 8 "InvalidDrift") rfl
  obtain ⟨h1, h⟩ := He.ba h
  obtain ⟨h2, h3⟩ := He.ba h
  exact ⟨_, _, _, _, _, "self", fd, He.eqO_ok h1, of_decide_eq_true h2, F, ⟨rfl, rfl, rfl, by decide +kernel, rfl, by decide +kernel, by decide +kernel⟩, by simp, by simp, by decide +kernel, by decide +kernel,
    fun r hr => He.eqO_ok (List.all_eq_true.mp h3 r (List.mem_reverse.mp hr)), .cons ⟨_, _, _, _, rfl⟩ .nil,
    shp_cons rfl (fun s us ws h1 h2 => match us, ws, h1, h2 with | [a, b], [], _, _ => ⟨[a, b], .cons rfl (.cons rfl .nil), funD_binds F (fun _ _ _ _ _ _ => rfl) s⟩)
    (shp_cons rfl (fun s us ws h1 h2 => match us, ws, h1, h2 with | [a], [b], _, _ => ⟨[a, b], .cons rfl (.cons rfl .nil), funD_binds F (fun _ _ _ _ _ _ => rfl) s⟩) shp_nil)⟩
theorem exc_InvalidText (c : He.SaysD [] fnD K) (h : iniB K (["given"], sh1 "given") (He.ga K "InvalidText") = true) : ExcDef K (["given"], sh1 "given") (He.ga K "InvalidText") := by
  obtain ⟨fd, F⟩ := c.def_ 22 (d := dM 9 "InvalidText") rfl
  obtain ⟨h1, h⟩ := He.ba h
  obtain ⟨h2, h3⟩ := He.ba h
  exact ⟨_, _, _, _, _, "self", fd, He.eqO_ok h1, of_decide_eq_true h2, F, ⟨rfl, rfl, rfl, by decide +kernel, rfl, by decide +kernel, by decide +kernel⟩, by simp, by simp, by decide +kernel, by decide +kernel,
    fun r hr => He.eqO_ok (List.all_eq_true.mp h3 r (List.mem_reverse.mp hr)), .cons ⟨_, _, _, _, rfl⟩ .nil,
    shp_cons rfl (fun s us ws h1 h2 => match us, ws, h1, h2 with | [a, b], [], _, _ => ⟨[a, b], .cons rfl (.cons rfl .nil), funD_binds F (fun _ _ _ _ _ _ => rfl) s⟩)
    (shp_cons rfl (fun s us ws h1 h2 => match us, ws, h1, h2 with | [a], [b], _, _ => ⟨[a, b], .cons rfl (.cons rfl .nil), funD_binds F (fun _ _ _ _ _ _ => rfl) s⟩) shp_nil)⟩
theorem exc_InvalidName (c : He.SaysD [] fnD K) (h : iniB K (["given"], sh1 "given") (He.ga K "InvalidName") = true) : ExcDef K (["given"], sh1 "given") (He.ga K "InvalidName") := by
  obtain ⟨fd, F⟩ := c.def_ 23 (d := dM 10 "InvalidName") rfl
  obtain ⟨h1, h⟩ := He.ba h
  obtain ⟨h2, h3⟩ := He.ba h
  exact ⟨_, _, _, _, _, "self", fd, He.eqO_ok h1, of_decide_eq_true h2, F, ⟨rfl, rfl, rfl, by decide +kernel, rfl, by decide +kernel, by decide +kernel⟩, by simp, by simp, by decide +kernel, by decide +kernel,
    fun r hr => He.eqO_ok (List.all_eq_true.mp h3 r (List.mem_reverse.mp hr)), .cons ⟨_, _, _, _, rfl⟩ .nil,
    shp_cons rfl (fun s us ws h1 h2 => match us, ws, h1, h2 with | [a, b], [], _, _ => ⟨[a, b], .cons rfl (.cons rfl .nil), funD_binds F (fun _ _ _ _ _ _ => rfl) s⟩)
    (shp_cons rfl (fun s us ws h1 h2 => match us, ws, h1, h2 with | [a], [b], _, _ => ⟨[a, b], .cons rfl (.cons rfl .nil), funD_binds F (fun _ _ _ _ _ _ => rfl) s⟩) shp_nil)⟩
theorem exc_InvalidIndex (c : He.SaysD [] fnD K) (h : iniB K (["given"], sh1 "given") (He.ga K "InvalidIndex") = true) : ExcDef K (["given"], sh1 "given") (He.ga K "InvalidIndex") := by
  obtain ⟨fd, F⟩ := c.def_ 24 (d := dM 11 "InvalidIndex") rfl
  obtain ⟨h1, h⟩ := He.ba h
  obtain ⟨h2, h3⟩ := He.ba h
  exact ⟨_, _, _, _, _, "self", fd, He.eqO_ok h1, of_decide_eq_true h2, F, ⟨rfl, rfl, rfl, by decide +kernel, rfl, by decide +kernel, by decide +kernel⟩, by simp, by simp, by decide +kernel, by decide +kernel,
    fun r hr => He.eqO_ok (List.all_eq_true.mp h3 r (List.mem_reverse.mp hr)), .cons ⟨_, _, _, _, rfl⟩ .nil,
    shp_cons rfl (fun s us ws h1 h2 => match us, ws, h1, h2 with | [a, b], [], _, _ => ⟨[a, b], .cons rfl (.cons rfl .nil), funD_binds F (fun _ _ _ _ _ _ => rfl) s⟩)
    (shp_cons rfl (fun s us ws h1 h2 => match us, ws, h1, h2 with | [a], [b], _, _ => ⟨[a, b], .cons rfl (.cons rfl .nil), funD_binds F (fun _ _ _ _ _ _ => rfl) s⟩) shp_nil)⟩
theorem exc_InvalidClaim (c : He.SaysD [] fnD K) (h : iniB K (["given"], sh1 "given") (He.ga K "InvalidClaim") = true) : ExcDef K (["given"], sh1 "given") (He.ga K "InvalidClaim") := by
  obtain ⟨fd, F⟩ := c.def_ 25 (d := dM 12 "InvalidClaim") rfl
  obtain ⟨h1, h⟩ := He.ba h
  obtain ⟨h2, h3⟩ := He.ba h
  exact ⟨_, _, _, _, _, "self", fd, He.eqO_ok h1, of_decide_eq_true h2, F, ⟨rfl, rfl, rfl, by decide +kernel, rfl, by decide +kernel, by decide +kernel⟩, by simp, by simp, by decide +kernel, by decide +kernel,
    fun r hr => He.eqO_ok (List.all_eq_true.mp h3 r (List.mem_reverse.mp hr)), .cons ⟨_, _, _, _, rfl⟩ .nil,
    shp_cons rfl (fun s us ws h1 h2 => match us, ws, h1, h2 with | [a, b], [], _, _ => ⟨[a, b], .cons rfl (.cons rfl .nil), funD_binds F (fun _ _ _ _ _ _ => rfl) s⟩)
    (shp_cons rfl (fun s us ws h1 h2 => match us, ws, h1, h2 with | [a], [b], _, _ => ⟨[a, b], .cons rfl (.cons rfl .nil), funD_binds F (fun _ _ _ _ _ _ => rfl) s⟩) shp_nil)⟩
theorem exc_NotADrive (c : He.SaysD [] fnD K) (h : iniB K (["given"], sh1 "given") (He.ga K "NotADrive") = true) : ExcDef K (["given"], sh1 "given") (He.ga K "NotADrive") := by
  obtain ⟨fd, F⟩ := c.def_ 26 (d := dM 13 "NotADrive") rfl
  obtain ⟨h1, h⟩ := He.ba h
  obtain ⟨h2, h3⟩ := He.ba h
  exact ⟨_, _, _, _, _, "self", fd, He.eqO_ok h1, of_decide_eq_true h2, F, ⟨rfl, rfl, rfl, by decide +kernel, rfl, by decide +kernel, by decide +kernel⟩, by simp, by simp, by decide +kernel, by decide +kernel,
    fun r hr => He.eqO_ok (List.all_eq_true.mp h3 r (List.mem_reverse.mp hr)), .cons ⟨_, _, _, _, rfl⟩ .nil,
    shp_cons rfl (fun s us ws h1 h2 => match us, ws, h1, h2 with | [a, b], [], _, _ => ⟨[a, b], .cons rfl (.cons rfl .nil), funD_binds F (fun _ _ _ _ _ _ => rfl) s⟩)
    (shp_cons rfl (fun s us ws h1 h2 => match us, ws, h1, h2 with | [a], [b], _, _ => ⟨[a, b], .cons rfl (.cons rfl .nil), funD_binds F (fun _ _ _ _ _ _ => rfl) s⟩) shp_nil)⟩
theorem exc_InvalidRows (c : He.SaysD [] fnD K) (h : iniB K (["index"], sh1 "index") (He.ga K "InvalidRows") = true) : ExcDef K (["index"], sh1 "index") (He.ga K "InvalidRows") := by
  obtain ⟨fd, F⟩ := c.def_ 27 (d := dM 14 "InvalidRows") rfl
  obtain ⟨h1, h⟩ := He.ba h
  obtain ⟨h2, h3⟩ := He.ba h
  exact ⟨_, _, _, _, _, "self", fd, He.eqO_ok h1, of_decide_eq_true h2, F, ⟨rfl, rfl, rfl, by decide +kernel, rfl, by decide +kernel, by decide +kernel⟩, by simp, by simp, by decide +kernel, by decide +kernel,
    fun r hr => He.eqO_ok (List.all_eq_true.mp h3 r (List.mem_reverse.mp hr)), .cons ⟨_, _, _, _, rfl⟩ .nil,
    shp_cons rfl (fun s us ws h1 h2 => match us, ws, h1, h2 with | [a, b], [], _, _ => ⟨[a, b], .cons rfl (.cons rfl .nil), funD_binds F (fun _ _ _ _ _ _ => rfl) s⟩)
    (shp_cons rfl (fun s us ws h1 h2 => match us, ws, h1, h2 with | [a], [b], _, _ => ⟨[a, b], .cons rfl (.cons rfl .nil), funD_binds F (fun _ _ _ _ _ _ => rfl) s⟩) shp_nil)⟩
theorem exc_InvalidLoad (c : He.SaysD [] fnD K) (h : iniB K (["index"], sh1 "index") (He.ga K "InvalidLoad") = true) : ExcDef K (["index"], sh1 "index") (He.ga K "InvalidLoad") := by
  obtain ⟨fd, F⟩ := c.def_ 28 (d := dM 15 "InvalidLoad") rfl
  obtain ⟨h1, h⟩ := He.ba h
  obtain ⟨h2, h3⟩ := He.ba h
  exact ⟨_, _, _, _, _, "self", fd, He.eqO_ok h1, of_decide_eq_true h2, F, ⟨rfl, rfl, rfl, by decide +kernel, rfl, by decide +kernel, by decide +kernel⟩, by simp, by simp, by decide +kernel, by decide +kernel,
    fun r hr => He.eqO_ok (List.all_eq_true.mp h3 r (List.mem_reverse.mp hr)), .cons ⟨_, _, _, _, rfl⟩ .nil,
    shp_cons rfl (fun s us ws h1 h2 => match us, ws, h1, h2 with | [a, b], [], _, _ => ⟨[a, b], .cons rfl (.cons rfl .nil), funD_binds F (fun _ _ _ _ _ _ => rfl) s⟩)
    (shp_cons rfl (fun s us ws h1 h2 => match us, ws, h1, h2 with | [a], [b], _, _ => ⟨[a, b], .cons rfl (.cons rfl .nil), funD_binds F (fun _ _ _ _ _ _ => rfl) s⟩) shp_nil)⟩
theorem exc_UnknownName (c : He.SaysD [] fnD K) (h : iniB K (["given"], sh1 "given") (He.ga K "UnknownName") = true) : ExcDef K (["given"], sh1 "given") (He.ga K "UnknownName") := by
  obtain ⟨fd, F⟩ := c.def_ 29 (d := dM 17 "UnknownName") rfl
  obtain ⟨h1, h⟩ := He.ba h
  obtain ⟨h2, h3⟩ := He.ba h
  exact ⟨_, _, _, _, _, "self", fd, He.eqO_ok h1, of_decide_eq_true h2, F, ⟨rfl, rfl, rfl, by decide +kernel, rfl, by decide +kernel, by decide +kernel⟩, by simp, by simp, by decide +kernel, by decide +kernel,
    fun r hr => He.eqO_ok (List.all_eq_true.mp h3 r (List.mem_reverse.mp hr)), .cons ⟨_, _, _, _, rfl⟩ .nil,
    shp_cons rfl (fun s us ws h1 h2 => match us, ws, h1, h2 with | [a, b], [], _, _ => ⟨[a, b], .cons rfl (.cons rfl .nil), funD_binds F (fun _ _ _ _ _ _ => rfl) s⟩)
    (shp_cons rfl (fun s us ws h1 h2 => match us, ws, h1, h2 with | [a], [b], _, _ => ⟨[a, b], .cons rfl (.cons rfl .nil), funD_binds F (fun _ _ _ _ _ _ => rfl) s⟩) shp_nil)⟩
theorem exc_InUse (c : He.SaysD [] fnD K) (h : iniB K (["index"], sh1 "index") (He.ga K "InUse") = true) : ExcDef K (["index"], sh1 "index") (He.ga K "InUse") := by
  obtain ⟨fd, F⟩ := c.def_ 30 (d := dM 18 "InUse") rfl
  obtain ⟨h1, h⟩ := He.ba h
  obtain ⟨h2, h3⟩ := He.ba h
  exact ⟨_, _, _, _, _, "self", fd, He.eqO_ok h1, of_decide_eq_true h2, F, ⟨rfl, rfl, rfl, by decide +kernel, rfl, by decide +kernel, by decide +kernel⟩, by simp, by simp, by decide +kernel, by decide +kernel,
    fun r hr => He.eqO_ok (List.all_eq_true.mp h3 r (List.mem_reverse.mp hr)), .cons ⟨_, _, _, _, rfl⟩ .nil,
    shp_cons rfl (fun s us ws h1 h2 => match us, ws, h1, h2 with | [a, b], [], _, _ => ⟨[a, b], .cons rfl (.cons rfl .nil), funD_binds F (fun _ _ _ _ _ _ => rfl) s⟩)
    (shp_cons rfl (fun s us ws h1 h2 => match us, ws, h1, h2 with | [a], [b], _, _ => ⟨[a, b], .cons rfl (.cons rfl .nil), funD_binds F (fun _ _ _ _ _ _ => rfl) s⟩) shp_nil)⟩
theorem exc_TooMany (c : He.SaysD [] fnD K) (h : iniB K (["limit"], sh1 "limit") (He.ga K "TooMany") = true) : ExcDef K (["limit"], sh1 "limit") (He.ga K "TooMany") := by
  obtain ⟨fd, F⟩ := c.def_ 31 (d := dM 22 "TooMany") rfl
  obtain ⟨h1, h⟩ := He.ba h
  obtain ⟨h2, h3⟩ := He.ba h
  exact ⟨_, _, _, _, _, "self", fd, He.eqO_ok h1, of_decide_eq_true h2, F, ⟨rfl, rfl, rfl, by decide +kernel, rfl, by decide +kernel, by decide +kernel⟩, by simp, by simp, by decide +kernel, by decide +kernel,
    fun r hr => He.eqO_ok (List.all_eq_true.mp h3 r (List.mem_reverse.mp hr)), .cons ⟨_, _, _, _, rfl⟩ .nil,
    shp_cons rfl (fun s us ws h1 h2 => match us, ws, h1, h2 with | [a, b], [], _, _ => ⟨[a, b], .cons rfl (.cons rfl .nil), funD_binds F (fun _ _ _ _ _ _ => rfl) s⟩)
    (shp_cons rfl (fun s us ws h1 h2 => match us, ws, h1, h2 with | [a], [b], _, _ => ⟨[a, b], .cons rfl (.cons rfl .nil), funD_binds F (fun _ _ _ _ _ _ => rfl) s⟩) shp_nil)⟩
theorem exc_NotAsked (c : He.SaysD [] fnD K) (h : iniB K (["index"], sh1 "index") (He.ga K "NotAsked") = true) : ExcDef K (["index"], sh1 "index") (He.ga K "NotAsked") := by
  obtain ⟨fd, F⟩ := c.def_ 32 (d := dM 24 "NotAsked") rfl
  obtain ⟨h1, h⟩ := He.ba h
  obtain ⟨h2, h3⟩ := He.ba h
  exact ⟨_, _, _, _, _, "self", fd, He.eqO_ok h1, of_decide_eq_true h2, F, ⟨rfl, rfl, rfl, by decide +kernel, rfl, by decide +kernel, by decide +kernel⟩, by simp, by simp, by decide +kernel, by decide +kernel,
    fun r hr => He.eqO_ok (List.all_eq_true.mp h3 r (List.mem_reverse.mp hr)), .cons ⟨_, _, _, _, rfl⟩ .nil,
    shp_cons rfl (fun s us ws h1 h2 => match us, ws, h1, h2 with | [a, b], [], _, _ => ⟨[a, b], .cons rfl (.cons rfl .nil), funD_binds F (fun _ _ _ _ _ _ => rfl) s⟩)
    (shp_cons rfl (fun s us ws h1 h2 => match us, ws, h1, h2 with | [a], [b], _, _ => ⟨[a, b], .cons rfl (.cons rfl .nil), funD_binds F (fun _ _ _ _ _ _ => rfl) s⟩) shp_nil)⟩
theorem exc_Broken (c : He.SaysD [] fnD K) (h : iniB K (["shown", "index"], sh2 "index" "shown") (He.ga K "Broken") = true) : ExcDef K (["shown", "index"], sh2 "index" "shown") (He.ga K "Broken") := by
  obtain ⟨fd, F⟩ := c.def_ 33 (d := dM 25 "Broken") rfl
  obtain ⟨h1, h⟩ := He.ba h
  obtain ⟨h2, h3⟩ := He.ba h
  exact ⟨_, _, _, _, _, "self", fd, He.eqO_ok h1, of_decide_eq_true h2, F, ⟨rfl, rfl, rfl, by decide +kernel, rfl, by decide +kernel, by decide +kernel⟩, by simp, by simp, by decide +kernel, by decide +kernel,
    fun r hr => He.eqO_ok (List.all_eq_true.mp h3 r (List.mem_reverse.mp hr)), .cons ⟨_, _, _, _, rfl⟩ (.cons ⟨_, _, _, _, rfl⟩ .nil),
    shp_cons rfl (fun s us ws h1 h2 => match us, ws, h1, h2 with | [a, b, c], [], _, _ => ⟨[a, b, c], .cons rfl (.cons rfl (.cons rfl .nil)), funD_binds F (fun _ _ _ _ _ _ => rfl) s⟩)
    (shp_cons rfl (fun s us ws h1 h2 => match us, ws, h1, h2 with | [a, b], [c], _, _ => ⟨[a, b, c], .cons rfl (.cons rfl (.cons rfl .nil)), funD_binds F (fun _ _ _ _ _ _ => rfl) s⟩)
    (shp_cons rfl (fun s us ws h1 h2 => match us, ws, h1, h2 with | [a], [c, b], _, _ => ⟨[a, b, c], .cons rfl (.cons rfl (.cons rfl .nil)), funD_binds F (fun _ _ _ _ _ _ => rfl) s⟩) shp_nil))⟩
end
end K01
set_option maxHeartbeats 0
/-! K01S: the facts of law_k01's table, together (printed by wip/tool/mksf.py). -/
namespace K01
open PySem PySem.Spec PyProof.Rows L2 Am
section
variable {K : PySem.W.Frag}
theorem fn_all (c : He.SaysD [] fnD K) : ∀ f d, T.fn.lookup f = some d → ∃ a, FAof K paths f = some a ∧ DefOk K T blts d a := by
  intro f d h
  have hm : (f, d) ∈ fnT := mem_lookup_s h
  simp only [fnT, List.mem_cons, List.not_mem_nil, or_false, Prod.mk.injEq] at hm
  rcases hm with ⟨rfl, rfl⟩ | ⟨rfl, rfl⟩ | ⟨rfl, rfl⟩ | ⟨rfl, rfl⟩ | ⟨rfl, rfl⟩ | ⟨rfl, rfl⟩ | ⟨rfl, rfl⟩ | ⟨rfl, rfl⟩ | ⟨rfl, rfl⟩ | ⟨rfl, rfl⟩ | ⟨rfl, rfl⟩ | ⟨rfl, rfl⟩ | ⟨rfl, rfl⟩ | ⟨rfl, rfl⟩ | ⟨rfl, rfl⟩
  · exact ⟨_, rfl, def_0 c⟩
  · exact ⟨_, rfl, def_1 c⟩
  · exact ⟨_, rfl, def_2 c⟩
  · exact ⟨_, rfl, def_3 c⟩
  · exact ⟨_, rfl, def_4 c⟩
  · exact ⟨_, rfl, def_5 c⟩
  · exact ⟨_, rfl, def_6 c⟩
  · exact ⟨_, rfl, def_7 c⟩
  · exact ⟨_, rfl, def_8 c⟩
  · exact ⟨_, rfl, def_9 c⟩
  · exact ⟨_, rfl, def_10 c⟩
  · exact ⟨_, rfl, def_11 c⟩
  · exact ⟨_, rfl, def_12 c⟩
  · exact ⟨_, rfl, def_13 c⟩
  · exact ⟨_, rfl, def_14 c⟩
theorem exc_all (c : He.SaysD [] fnD K) : ∀ C d e, T.cls.lookup C = some d → d.exc = some e → e.1 ≠ [] → iniB K e (He.ga K C) = true → ExcDef K e (He.ga K C) := by
  intro C d e h he hne hi
  have hm : (C, d) ∈ clsT := mem_lookup_s h
  simp only [clsT, List.mem_cons, List.not_mem_nil, or_false, Prod.mk.injEq] at hm
  rcases hm with ⟨rfl, rfl⟩ | ⟨rfl, rfl⟩ | ⟨rfl, rfl⟩ | ⟨rfl, rfl⟩ | ⟨rfl, rfl⟩ | ⟨rfl, rfl⟩ | ⟨rfl, rfl⟩ | ⟨rfl, rfl⟩ | ⟨rfl, rfl⟩ | ⟨rfl, rfl⟩ | ⟨rfl, rfl⟩ | ⟨rfl, rfl⟩ | ⟨rfl, rfl⟩ | ⟨rfl, rfl⟩ | ⟨rfl, rfl⟩ | ⟨rfl, rfl⟩ | ⟨rfl, rfl⟩ | ⟨rfl, rfl⟩ | ⟨rfl, rfl⟩ | ⟨rfl, rfl⟩ | ⟨rfl, rfl⟩ | ⟨rfl, rfl⟩ | ⟨rfl, rfl⟩ | ⟨rfl, rfl⟩ | ⟨rfl, rfl⟩
  · cases he; exact absurd rfl hne
  · cases he; exact exc_InvalidBlocks c hi
  · cases he; exact exc_InvalidPages c hi
  · cases he; exact exc_InvalidNames c hi
  · cases he; exact exc_InvalidPrice c hi
  · cases he; exact exc_InvalidNumber c hi
  · cases he; exact exc_InvalidFlag c hi
  · cases he; exact exc_InvalidDrift c hi
  · cases he; exact exc_InvalidText c hi
  · cases he; exact exc_InvalidName c hi
  · cases he; exact exc_InvalidIndex c hi
  · cases he; exact exc_InvalidClaim c hi
  · cases he; exact exc_NotADrive c hi
  · cases he; exact exc_InvalidRows c hi
  · cases he; exact exc_InvalidLoad c hi
  · cases he; exact absurd rfl hne
  · cases he; exact exc_UnknownName c hi
  · cases he; exact exc_InUse c hi
  · cases he; exact absurd rfl hne
  · cases he; exact absurd rfl hne
  · cases he; exact absurd rfl hne
  · cases he; exact exc_TooMany c hi
  · cases he; exact absurd rfl hne
  · cases he; exact exc_NotAsked c hi
  · cases he; exact exc_Broken c hi
theorem sf {h : Heap} {mg : Str → Option Value} (X : K.In h) (G : h.Ns mainGlobals mg) (c : SaysX (sfB T paths blts) [] fnD K) : SF K mg (CAof K T) T (FAof K paths) blts := sf_of X G c.1 (fn_all c.2) (exc_all c.2)
end
end K01
set_option maxHeartbeats 4000000
namespace K01
open PySem Am
theorem f_law_cell : T.fn.lookup ("_law_cell" : Str) = some ⟨["_law_cells", "_law_k"], [((2, []), [.pos 0, .pos 1])], 4, b_law_cell⟩ := rfl
theorem f_law_pool : T.fn.lookup ("_law_pool" : Str) = some ⟨["_law_cell_here"], [((1, []), [.pos 0])], 2, b_law_pool⟩ := rfl
theorem f_law_draw : T.fn.lookup ("_law_draw" : Str) = some ⟨["_law_pool_here", "_law_many"], [((2, []), [.pos 0, .pos 1])], 4, b_law_draw⟩ := rfl
theorem f_law_word : T.fn.lookup ("_law_word" : Str) = some ⟨["_law_pool_here"], [((1, []), [.pos 0])], 5, b_law_word⟩ := rfl
theorem f_law_things : T.fn.lookup ("_law_things" : Str) = some ⟨["_law_pool_here"], [((1, []), [.pos 0])], 4, b_law_things⟩ := rfl
theorem f_law_sorts : T.fn.lookup ("_law_sorts" : Str) = some ⟨["_law_e"], [((1, []), [.pos 0])], 4, b_law_sorts⟩ := rfl
theorem f_law_bases : T.fn.lookup ("_law_bases" : Str) = some ⟨["_law_e"], [((1, []), [.pos 0])], 4, b_law_bases⟩ := rfl
theorem f_law_fits : T.fn.lookup ("_law_fits" : Str) = some ⟨["_law_e", "_law_at"], [((2, []), [.pos 0, .pos 1])], 3, b_law_fits⟩ := rfl
theorem f_law_same : T.fn.lookup ("_law_same" : Str) = some ⟨["_law_told", "_law_thing"], [((2, []), [.pos 0, .pos 1])], 2, b_law_same⟩ := rfl
theorem f_law_near : T.fn.lookup ("_law_near" : Str) = some ⟨["_law_thing"], [((1, []), [.pos 0])], 4, b_law_near⟩ := rfl
theorem f_law_far : T.fn.lookup ("_law_far" : Str) = some ⟨["_law_thing"], [((1, []), [.pos 0])], 4, b_law_far⟩ := rfl
theorem f_law_counted : T.fn.lookup ("_law_counted" : Str) = some ⟨["_law_thing"], [((1, []), [.pos 0])], 2, b_law_counted⟩ := rfl
theorem f_law_one_right : T.fn.lookup ("_law_one_right" : Str) = some ⟨["_law_thing", "_law_mate"], [((2, []), [.pos 0, .pos 1])], 4, b_law_one_right⟩ := rfl
theorem f_law_bare_right : T.fn.lookup ("_law_bare_right" : Str) = some ⟨[], [((0, []), [])], 4, b_law_bare_right⟩ := rfl
theorem f_law : T.fn.lookup ("law" : Str) = some ⟨["_law_cells"], [((1, []), [.pos 0])], 6, blaw⟩ := rfl
theorem m_BadValue : mkD T "BadValue" = some (.inl ([], [((0, []), [])])) := rfl
theorem m_InvalidBlocks : mkD T "InvalidBlocks" = some (.inl (["given"], [((1, []), [.pos 0]), ((0, ["given"]), [.kw 0])])) := rfl
theorem m_InvalidPages : mkD T "InvalidPages" = some (.inl (["given"], [((1, []), [.pos 0]), ((0, ["given"]), [.kw 0])])) := rfl
theorem m_InvalidNames : mkD T "InvalidNames" = some (.inl (["given"], [((1, []), [.pos 0]), ((0, ["given"]), [.kw 0])])) := rfl
theorem m_InvalidPrice : mkD T "InvalidPrice" = some (.inl (["given"], [((1, []), [.pos 0]), ((0, ["given"]), [.kw 0])])) := rfl
theorem m_InvalidNumber : mkD T "InvalidNumber" = some (.inl (["given"], [((1, []), [.pos 0]), ((0, ["given"]), [.kw 0])])) := rfl
theorem m_InvalidFlag : mkD T "InvalidFlag" = some (.inl (["given"], [((1, []), [.pos 0]), ((0, ["given"]), [.kw 0])])) := rfl
theorem m_InvalidDrift : mkD T "InvalidDrift" = some (.inl (["given"], [((1, []), [.pos 0]), ((0, ["given"]), [.kw 0])])) := rfl
theorem m_InvalidText : mkD T "InvalidText" = some (.inl (["given"], [((1, []), [.pos 0]), ((0, ["given"]), [.kw 0])])) := rfl
theorem m_InvalidName : mkD T "InvalidName" = some (.inl (["given"], [((1, []), [.pos 0]), ((0, ["given"]), [.kw 0])])) := rfl
theorem m_InvalidIndex : mkD T "InvalidIndex" = some (.inl (["given"], [((1, []), [.pos 0]), ((0, ["given"]), [.kw 0])])) := rfl
theorem m_InvalidClaim : mkD T "InvalidClaim" = some (.inl (["given"], [((1, []), [.pos 0]), ((0, ["given"]), [.kw 0])])) := rfl
theorem m_NotADrive : mkD T "NotADrive" = some (.inl (["given"], [((1, []), [.pos 0]), ((0, ["given"]), [.kw 0])])) := rfl
theorem m_InvalidRows : mkD T "InvalidRows" = some (.inl (["index"], [((1, []), [.pos 0]), ((0, ["index"]), [.kw 0])])) := rfl
theorem m_InvalidLoad : mkD T "InvalidLoad" = some (.inl (["index"], [((1, []), [.pos 0]), ((0, ["index"]), [.kw 0])])) := rfl
theorem m_BadName : mkD T "BadName" = some (.inl ([], [((0, []), [])])) := rfl
theorem m_UnknownName : mkD T "UnknownName" = some (.inl (["given"], [((1, []), [.pos 0]), ((0, ["given"]), [.kw 0])])) := rfl
theorem m_InUse : mkD T "InUse" = some (.inl (["index"], [((1, []), [.pos 0]), ((0, ["index"]), [.kw 0])])) := rfl
theorem m_NoAnswer : mkD T "NoAnswer" = some (.inl ([], [((0, []), [])])) := rfl
theorem m_OtherNames : mkD T "OtherNames" = some (.inl ([], [((0, []), [])])) := rfl
theorem m_Sticks : mkD T "Sticks" = some (.inl ([], [((0, []), [])])) := rfl
theorem m_TooMany : mkD T "TooMany" = some (.inl (["limit"], [((1, []), [.pos 0]), ((0, ["limit"]), [.kw 0])])) := rfl
theorem m_NothingToUndo : mkD T "NothingToUndo" = some (.inl ([], [((0, []), [])])) := rfl
theorem m_NotAsked : mkD T "NotAsked" = some (.inl (["index"], [((1, []), [.pos 0]), ((0, ["index"]), [.kw 0])])) := rfl
theorem m_Broken : mkD T "Broken" = some (.inl (["shown", "index"], [((2, []), [.pos 1, .pos 0]), ((1, ["shown"]), [.kw 0, .pos 0]), ((0, ["shown", "index"]), [.kw 0, .kw 1])])) := rfl
theorem bw_given {d : D} {r : List Src} : Shp.bind [((1, []), r), ((0, ["given"]), [.kw 0])] [] ["given"] [d] = some [d] := rfl
theorem bw_index {d : D} {r : List Src} : Shp.bind [((1, []), r), ((0, ["index"]), [.kw 0])] [] ["index"] [d] = some [d] := rfl
theorem bw_limit {d : D} {r : List Src} : Shp.bind [((1, []), r), ((0, ["limit"]), [.kw 0])] [] ["limit"] [d] = some [d] := rfl
theorem bw_b1 {a b : D} {q r : List Src} : Shp.bind [((2, []), [.pos 1, .pos 0]), ((1, ["shown"]), q), ((0, ["shown", "index"]), r)] [a, b] [] [] = some [b, a] := rfl
theorem bw_b2 {a b : D} {q r : List Src} : Shp.bind [((2, []), q), ((1, ["shown"]), [.kw 0, .pos 0]), ((0, ["shown", "index"]), r)] [a] ["shown"] [b] = some [b, a] := rfl
theorem bw_b3 {a b : D} {q r : List Src} : Shp.bind [((2, []), q), ((1, ["shown"]), r), ((0, ["shown", "index"]), [.kw 0, .kw 1])] [] ["shown", "index"] [b, a] = some [b, a] := rfl
local macro_rules | `(tactic| walk_at "am") => `(tactic| simp (disch := first | assumption | omega | (simp only [List.length_append, List.length_cons, List.length_nil, List.length_set]; done) | (simp only [List.length_append, List.length_cons, List.length_nil, List.length_set]; omega) | decide +kernel) only [Z_nil, Z_cons, Z_exp, Z_set, Z_unpack, Z_setat, Z_setix, Z_ret, Z_retN, Z_raise, Z_brk, Z_cont, Z_pass, Z_ite, Z_for, Z_whl,
  setTg_1, setTg_2, setTg_3, W_var, W_con, W_glob, W_bin, W_neg, W_cmp, W_chain, W_and, W_or, W_not, W_ite, W_tup, W_lst, W_dic0, W_dic1, W_ix, W_sl, W_call, W_blt, W_mk, MkW_l, m_BadValue, m_InvalidBlocks, m_InvalidPages, m_InvalidNames, m_InvalidPrice, m_InvalidNumber, m_InvalidFlag, m_InvalidDrift, m_InvalidText, m_InvalidName, m_InvalidIndex, m_InvalidClaim, m_NotADrive, m_InvalidRows, m_InvalidLoad, m_BadName, m_UnknownName, m_InUse, m_NoAnswer, m_OtherNames, m_Sticks, m_TooMany, m_NothingToUndo, m_NotAsked, m_Broken, bw_given, bw_index, bw_limit, bw_b1, bw_b2, bw_b3, W_isi, W_comp, W_attr, W_nil, W_cons, W_T0, W_T1, W_no, W_so, W_seq, W_rng1, W_rng2,
  f_law_cell, f_law_pool, f_law_draw, f_law_word, f_law_things, f_law_sorts, f_law_bases, f_law_fits, f_law_same, f_law_near, f_law_far, f_law_counted, f_law_one_right, f_law_bare_right, f_law, OW_some, OW_none, OW_map, VW_some, IteW_t, IteW_f, IteW_d, IteW_n, EW_ok,
  B_add, B_sub, B_mul, B_fdiv, B_mod, B_pow, B_addS, B_addT, B_addL, c_lt, c_le, c_gt, c_ge, c_eqD, c_neD, eqD_int, eqD_str,  le_lim, mulOk_by, log_by', rngOk_by, forall_const, and_true, and_self, Int.reduceLT, Int.reduceLE, Nat.reduceLT, Nat.reduceLeDiff, Int.reducePow, Int.reduceToNat, Int.reduceNeg, not_true_eq_false, not_false_eq_true, false_implies, true_implies, reduceIte,  t_non, t_bl, t_int, t_tup,
  b_len, len_ref, len_tup, len_str, b_int, b_intb, b_abs, b_max2, b_min2, b_tupT, b_tupL, b_all, b_any, b_sum, ix_tup, ix_ref, sl_tup, sl_ref, setix_ref, lst_nw, wlst_nw, lst_app, wlst_app, dic_nw, dic_app, SeqW_ref, SeqW_tup, Itv.size, wipeL, Option.isSome_some, Option.getD_some, List.length_map, true_and, lst_set, wlst_set, atI_0, atI_1, atI_2, ixN_30, ixN_31, ixN_32, bind_0, bind_1, bind_2,
  startL, List.map_cons, List.map_nil, List.length_cons, List.length_nil, List.length_append, List.length_set, List.replicate_succ, List.replicate_zero, List.cons_append, List.nil_append, List.append_nil, Nat.reduceSub, Nat.reduceAdd,
  List.set_cons_succ, List.set_cons_zero, List.getElem?_cons_succ, List.getElem?_cons_zero, Option.bind_some, Option.map_some, List.set_set, *])
/-- a pool: at p, drawn from at most k times -/
def PoolAt (S : Sto) (p : Nat) (k : Nat) : Prop := ∃ a b c : Int, S[p]? = some (.lst [.int a, .int b, .int c]) ∧ 0 ≤ a ∧ a < 2147481949 ∧ 0 ≤ b ∧ 0 ≤ c ∧ c ≤ k
theorem draw_ok {fu n : Nat} {S : Sto} {p k : Nat} {m : Int} (hp : PoolAt S p k) (hk : k < 1000000000000) (hm : 0 < m) (hm2 : m < 1000000000000000000) :
    EW (run T fu (n + 1) "_law_draw" [.ref p, .int m] S) (fun d S1 => ∃ r, d = .int r ∧ 0 ≤ r ∧ r < m ∧ Fr (some p) S S1 ∧ PoolAt S1 p (k + 1)) fun _ _ => False := by
  obtain ⟨a, b, c, hp, ha1, ha2, hb, hc1, hc2⟩ := hp
  have hp' := lt_of_at hp
  have hl := lst_of hp
  have hw := wlst_of hp
  clear hp
  refine run_W f_law_draw rfl ?_
  unfold b_law_draw
  walk_at "am"
  have e1 := Int.emod_nonneg (a * 46349 + 70001 * (c + 1) + 11) (b := 2147481937) (by decide)
  have e2 := Int.emod_lt_of_pos (a * 46349 + 70001 * (c + 1) + 11) (b := 2147481937) (by decide)
  generalize (a * 46349 + 70001 * (c + 1) + 11) % 2147481937 = s at *
  have e3 := Int.emod_nonneg (s * s + 46301 * (c + 1)) (b := 2147481907) (by decide)
  have e4 := Int.emod_lt_of_pos (s * s + 46301 * (c + 1)) (b := 2147481907) (by decide)
  generalize (s * s + 46301 * (c + 1)) % 2147481907 = t at *
  refine ⟨fun h => ?_, fun h => ?_⟩
  · exact ⟨_, rfl, Int.emod_nonneg _ (by omega), Int.emod_lt_of_pos _ hm, Fr.set', t, b / m, c + 1, List.getElem?_set_self hp', by omega, by omega, Int.ediv_nonneg hb (by omega), by omega, by omega⟩
  · exact ⟨_, rfl, Int.emod_nonneg _ (by omega), Int.emod_lt_of_pos _ hm, Fr.set', t, b, c + 1, List.getElem?_set_self hp', by omega, by omega, hb, by omega, by omega⟩
theorem pool_ok {fu n : Nat} {S : Sto} {i : Int} : EW (run T fu (n + 1) "_law_pool" [.int i] S) (fun d S1 => ∃ v, d = .ref S.length ∧ S1 = S ++ [v] ∧ PoolAt S1 S.length 0) fun _ _ => False := by
  refine run_W f_law_pool rfl ?_
  unfold b_law_pool
  walk_at "am"
  have e1 := Int.emod_nonneg i (b := 2147481949) (by decide)
  have e2 := Int.emod_lt_of_pos i (b := 2147481949) (by decide)
  generalize i % 2147481949 = s at *
  have key : ∀ j : Int, 0 ≤ j → PoolAt (S ++ [MO.lst [D.int s, D.int j, D.int 0]]) S.length 0 := fun j hj => ⟨s, j, 0, by simp, e1, e2, hj, by omega, by omega⟩
  refine ⟨fun h => ⟨fun h => ?_, fun h => ?_⟩, fun h => ⟨by decide, fun h => ?_, fun h => ?_⟩⟩
  all_goals exact ⟨_, rfl, key _ (by omega)⟩
theorem cut5 {xs : List D} : cutD xs none (some 5) = xs.take 5 := by
  unfold cutD HT.sIx
  simp
theorem cell_ok {fu n : Nat} {S : Sto} {r : Nat} {k : Int} {ns : List Int} (hr : lstAt S r = some (ns.map D.int)) (hk : 0 ≤ k ∧ k < 1000) :
   EW (run T fu (n + 1) "_law_cell" [.ref r, .int k] S) (fun d S1 => ∃ i X, d = .int i ∧ S1 = S ++ X) fun _ _ => False := by
  refine run_W f_law_cell rfl ?_
  unfold b_law_cell
  have hr' := lt_of_lst hr
  walk_at "am"
  refine ⟨fun h => ?_, fun h => ?_⟩
  · have : atI (ns.map D.int) k = some (.int (ns[k.toNat]'(by omega))) := by
      have := atI_k (xs := ns.map D.int) (k := k.toNat) (d := .int (ns[k.toNat]'(by omega))) (by simp)
      rwa [Int.toNat_of_nonneg hk.1] at this
    rw [this]
    exact ⟨_, [], rfl, by simp⟩
  · rw [cut5, ← List.map_take]
    refine for_lst (ds := (ns.take 5).map D.int) (fun j L S' => S' = S ++ [MO.lst ((ns.take 5).map D.int)] ∧ ∃ v w, L = [some (.ref r), some (.int k), some (.int v), w] ∧ 0 ≤ v ∧ v < 2147581997) ⟨rfl, _, _, rfl, by omega, by omega⟩ ?_ ?_ ?_ (by simp)
    · rintro j L S' ⟨rfl, h⟩
      exact lst_new
    · rintro j d L S' hd ⟨rfl, v, w, rfl, hv⟩
      rw [List.getElem?_map] at hd
      obtain ⟨i, hi, rfl⟩ := Option.map_eq_some_iff.mp hd
      walk_at "am"
      refine ⟨_, _, rfl, Int.emod_nonneg _ (by decide), ?_⟩
      have := Int.emod_lt_of_pos (v * 46327 + i) (b := 2147481997) (by decide)
      omega
    · rintro L S' ⟨rfl, v, w, rfl, hv⟩
      walk_at "am"
      exact ⟨_, _, rfl, rfl⟩
theorem atI_all {P : D → Prop} {xs : List D} {r : Int} (h : ∀ d ∈ xs, P d) (h0 : 0 ≤ r) (h1 : r < xs.length) : ∃ d, atI xs r = some d ∧ P d := by
  have hk : r.toNat < xs.length := by omega
  refine ⟨xs[r.toNat], ?_, h _ (List.getElem_mem hk)⟩
  have := atI_k (xs := xs) (k := r.toNat) (d := xs[r.toNat]) (by simp [hk])
  rwa [Int.toNat_of_nonneg h0] at this
theorem ix_str {S : Sto} {x : Str} {r : Int} (hl : x.length ≤ lim) (h0 : 0 ≤ r) (h1 : r < x.length) : ∃ c, c ∈ x.cps.toList ∧ ixD S (.str x) (.int r) = some (.str ⟨#[c]⟩) := by
  have hk : r.toNat < x.cps.toList.length := by
    have : x.length = x.cps.toList.length := by simp [Str.length]
    omega
  refine ⟨x.cps.toList[r.toNat], List.getElem_mem hk, ?_⟩
  unfold ixD
  dsimp only
  rw [if_pos hl]
  have e : L2.atI x.cps.toList r = some x.cps.toList[r.toNat] := by
    unfold L2.atI L2.ixN
    rw [if_pos h0, if_pos (by omega)]
    simp [hk]
  rw [e]
  rfl
theorem strOk_app {x y : Str} (hx : PyData.strOk x = true) (hy : PyData.strOk y = true) : PyData.strOk (x ++ y) = true := by
  have e : (x ++ y).cps = x.cps ++ y.cps := rfl
  unfold PyData.strOk at *
  rw [e, Array.all_append, hx, hy]
  rfl
theorem strOk_mem {x : Str} {c : Nat} (hx : PyData.strOk x = true) (h : c ∈ x.cps.toList) : PyData.strOk ⟨#[c]⟩ = true := by
  unfold PyData.strOk at *
  have := Array.all_eq_true'.mp hx c (by simpa using h)
  simpa using this
theorem len_app {x y : Str} : (x ++ y).length = x.length + y.length := by
  show (x.cps ++ y.cps).size = _
  simp [Str.length]
def signs : Str := "abcdefghijklmnopqrstuvwxyz0123456789"
theorem PoolAt.app {S X : Sto} {p k : Nat} (h : PoolAt S p k) : PoolAt (S ++ X) p k := by
  obtain ⟨a, b, c, h, q⟩ := h
  exact ⟨a, b, c, by rw [at_app (lt_of_at h)]; exact h, q⟩
theorem PoolAt.lt {S : Sto} {p k : Nat} (h : PoolAt S p k) : p < S.length := by
  obtain ⟨a, b, c, h, q⟩ := h
  exact lt_of_at h
theorem PoolAt.le {S : Sto} {p k k' : Nat} (h : PoolAt S p k) (q : k ≤ k') : PoolAt S p k' := by
  obtain ⟨a, b, c, h, h1, h2, h3, h4, h5⟩ := h
  exact ⟨a, b, c, h, h1, h2, h3, h4, by omega⟩
theorem rngD_at {j : Int} {k : Nat} {d : D} (h : (rngD 0 j)[k]? = some d) : d = .int k ∧ (k : Int) < j := by
  unfold rngD at h
  rw [List.getElem?_map] at h
  obtain ⟨i, hi, rfl⟩ := Option.map_eq_some_iff.mp h
  have := List.getElem?_eq_some_iff.mp hi
  obtain ⟨h1, h2⟩ := this
  simp at h1 h2
  subst h2
  exact ⟨by simp, by omega⟩
theorem rngD_len {j : Int} (h : 0 ≤ j) : ((rngD 0 j).length : Int) = j := by
  unfold rngD
  simp
  omega
theorem word_ok {fu n : Nat} {S : Sto} {p k : Nat} (hp : PoolAt S p k) (hk : k < 900000000000) :
    EW (run T fu (n + 2) "_law_word" [.ref p] S) (fun d S1 => ∃ x, d = .str x ∧ x.length ≤ 10 ∧ PyData.strOk x = true ∧ Fr (some p) S S1 ∧ PoolAt S1 p (k + 20)) fun _ _ => False := by
  refine run_W f_law_word rfl ?_
  unfold b_law_word
  walk_at "am"
  refine EW_of (draw_ok hp (by omega) (by decide) (by decide)) ?_
  rintro _ S1 ⟨r1, rfl, hr1, hr2, F1, P1⟩
  walk_at "am"
  refine ⟨fun h => ?_, fun h => ?_⟩
  · refine EW_of (draw_ok P1.app (by omega) (by decide) (by decide)) ?_
    rintro _ S2 ⟨r2, rfl, hs1, hs2, F2, P2⟩
    have hl := F2.lst lst_new (by have := P1.lt; intro e; cases e; omega)
    obtain ⟨d, hd, x, rfl, hx⟩ := atI_all (P := fun d => ∃ x, d = .str x ∧ x.length ≤ 10 ∧ PyData.strOk x = true) (xs := [D.str "write", D.str "trim", D.str "open", D.str "new", D.str "drive", D.str "any", D.str "oldest", D.str "most", D.str "free", D.str "n0", D.str "n1"])
      (by
        intro d hd
        simp only [List.mem_cons, List.not_mem_nil, or_false] at hd
        rcases hd with rfl | rfl | rfl | rfl | rfl | rfl | rfl | rfl | rfl | rfl | rfl <;> exact ⟨_, rfl, by decide +kernel, by decide +kernel⟩) hs1 (by simpa using hs2)
    walk_at "am"
    exact ⟨_, rfl, hx.1, hx.2, F1.app.trans F2, P2.le (by omega)⟩
  · refine EW_of (draw_ok P1 (by omega) (by decide) (by decide)) ?_
    rintro _ S2 ⟨r2, rfl, hs1, hs2, F2, P2⟩
    obtain ⟨c, hc, e⟩ := ix_str (S := S2) (x := signs) (r := r2) (by decide +kernel) hs1 (by have : signs.length = 36 := by decide +kernel
                                                                                             omega)
    have hc := strOk_mem (x := signs) (by decide +kernel) hc
    unfold signs at e
    walk_at "am"
    refine EW_of (draw_ok P2 (by omega) (by decide) (by decide)) ?_
    rintro _ S3 ⟨r3, rfl, hu1, hu2, F3, P3⟩
    dsimp only
    refine ⟨rngOk_by (by omega) (by omega), ?_⟩
    have hlen := rngD_len hu1
    refine for_fix (fun j L S' => (∃ x w, L = [some (.ref p), none, some (.str signs), some (.str x), w] ∧ x.length ≤ j + 1 ∧ PyData.strOk x = true) ∧ Fr (some p) S S' ∧ PoolAt S' p (k + 3 + j)) ⟨⟨_, _, rfl, by simp [Str.length], hc⟩, (F1.trans F2).trans F3, P3.le (by omega)⟩ ?_ ?_ (by omega)
    · rintro j d L S' hd ⟨⟨x, w, rfl, hx, hx2⟩, F4, P4⟩
      obtain ⟨rfl, hj⟩ := rngD_at hd
      walk_at "am"
      refine EW_of (draw_ok P4 (by omega) (by decide) (by decide)) ?_
      rintro _ S5 ⟨r5, rfl, hv1, hv2, F5, P5⟩
      obtain ⟨c, hc, e⟩ := ix_str (S := S5) (x := signs) (r := r5) (by decide +kernel) hv1 (by have : signs.length = 36 := by decide +kernel
                                                                                               omega)
      have hc := strOk_mem (x := signs) (by decide +kernel) hc
      walk_at "am"
      have hz : ({ cps := #[c] } : Str).length = 1 := rfl
      refine ⟨by rw [hz]; unfold lim; omega, ⟨_, _, rfl, by rw [len_app, hz]; omega, strOk_app hx2 hc⟩, F4.trans F5, P5.le (by omega)⟩
    · rintro L S' ⟨⟨x, w, rfl, hx, hx2⟩, F4, P4⟩
      walk_at "am"
      exact ⟨_, rfl, by omega, hx2, P4.le (by omega)⟩
/-- what repr and == take, and tell alike -/
def Nice (S : Sto) (d : D) : Prop := (∃ p, pd 60 S d = some p ∧ reprOk p = true ∧ okd p = true) ∨ ∃ i kvs l, d = .ref i ∧ dicAt S i = some kvs ∧ lstAt S i = none ∧ flatKv kvs = some l ∧ (kvs.map fun p => keyD p.1).Nodup ∧ (PyData.dict l).showable = true ∧ (PyData.dict l).depth ≤ 60 ∧ (PyData.dict l).shown.length ≤ lim
theorem fr_dic {p : Option Nat} {S S1 : Sto} {i : Nat} {ds : List (D × D)} (a : Fr p S S1) (h : dicAt S i = Option.some ds) (n : Option.some i ≠ p) : dicAt S1 i = Option.some ds ∧ lstAt S i = lstAt S1 i := by
  have hl : i < S.length := by
    unfold dicAt at h
    cases e : S[i]? with
    | none => rw [e] at h; cases h
    | some o => exact lt_of_at e
  unfold dicAt lstAt at *
  rw [a.2 i hl n]
  exact ⟨h, rfl⟩
theorem Nice.fr {S S1 : Sto} {d : D} (h : Nice S d) (a : Fr none S S1) : Nice S1 d := by
  rcases h with ⟨p, h, q⟩ | ⟨i, kvs, l, rfl, h, h2, q⟩
  · exact .inl ⟨p, a.pd h, q⟩
  · have := fr_dic a h (by simp)
    exact .inr ⟨i, kvs, l, rfl, this.1, by rw [← this.2]; exact h2, q⟩
theorem same_ok {fu n : Nat} {S : Sto} {d : D} (h : Nice S d) : EW (run T fu (n + 1) "_law_same" [d, d] S) (fun r S1 => r = .bl true ∧ S1 = S) fun _ _ => False := by
  refine run_W f_law_same rfl ?_
  unfold b_law_same
  have key : ∃ x : Str, reprD S d = .ok (.str x) S := by
    rcases h with ⟨p, h, h1, h2⟩ | ⟨i, kvs, l, rfl, h, h2, h3, h4, h5⟩
    · refine ⟨p.shown, ?_⟩
      unfold reprD
      rw [h]
      dsimp only
      rw [if_pos h1]
    · refine ⟨(PyData.dict l).shown, ?_⟩
      unfold reprD
      have : pd 60 S (.ref i) = none := by
        unfold pd
        rw [h2]
      rw [this]
      dsimp only
      unfold dicOf
      dsimp only
      rw [h]
      dsimp only [Option.bind_some]
      rw [h3]
      dsimp only
      rw [if_pos h5]
  have key2 : eqD S d d = some true := by
    rcases h with ⟨p, h, h1, h2⟩ | ⟨i, kvs, l, rfl, h, h2, h3, h4, h5⟩
    · rw [eqD_of h h h2 h2]
      unfold okd SeqAt.shaped at h2
      rw [Bool.and_eq_true] at h2
      rw [SeqAt.eqv_refl p h2.1]
    · show eqD1 S (.ref i) (.ref i) = _
      unfold eqD1
      have : pd 60 S (.ref i) = none := by
        unfold pd
        rw [h2]
      rw [this]
      dsimp only
      rw [if_pos]
      unfold sameDic
      dsimp only
      rw [h]
      simp [h3]
      exact h4
  obtain ⟨x, hx⟩ := key
  have e1 : ∀ Q E, EW (bltD .repr S [d]) Q E = Q (.str x) S := fun Q E => by
    show EW (reprD S d) Q E = _
    rw [hx]; rfl
  walk_at "am"
  try simp only [c_eqD, key2, OW_some]
  try simp [IteW, Raw.IteW]
/-- whose classes -/
def sortsL : List Str := ["InvalidBlocks", "InvalidPages", "InvalidNames", "InvalidPrice", "InvalidNumber", "InvalidFlag", "InvalidDrift", "InvalidText", "InvalidName", "InvalidIndex", "InvalidClaim", "NotADrive", "InvalidRows", "InvalidLoad", "UnknownName", "InUse", "OtherNames", "Sticks", "TooMany", "NothingToUndo", "NotAsked", "Broken"]
def basesL : List Str := ["BadValue", "BadName", "NoAnswer", "ValueError", "LookupError", "ArithmeticError"]
def selB : Nat → List Bool → List Int
  | _, [] => []
  | k, b :: r => if b = true then (k : Int) :: selB (k + 1) r else selB (k + 1) r
theorem selB_succ : ∀ (b : List Bool) (i k : Nat) (h : k < b.length), selB i (b.take (k + 1)) = selB i (b.take k) ++ (if b[k] = true then [((i + k : Nat) : Int)] else [])
  | [], i, k, h => by simp at h
  | b :: r, i, 0, h => by simp [selB]
  | b :: r, i, k + 1, h => by
    have ih := selB_succ r (i + 1) k (by simpa using h)
    rw [show i + 1 + k = i + (k + 1) by omega] at ih
    simp only [List.take_succ_cons, selB, List.getElem_cons_succ]
    rw [ih]
    by_cases hb : b = true <;> simp [hb]
theorem selB_len : ∀ (b : List Bool) (i : Nat), (selB i b).length ≤ b.length
  | [], i => by simp [selB]
  | b :: r, i => by
    have := selB_len r (i + 1)
    unfold selB
    by_cases hb : b = true
    · rw [if_pos hb]; simp; exact this
    · rw [if_neg hb]; simp; omega
theorem pick_ok {b : List Bool} {S : Sto} {r : Nat} {L : Am.Loc} {R : Str → List D → Sto → Out D} {Q : D → Sto → Prop} {E : D → Sto → Prop} (hL : L.length = 4) (h1 : L[1]? = some (some (D.ref r))) (hr : lstAt S r = some (b.map D.bl)) (hb : b.length ≤ 64) {q n : Nat} {m : Int} (hq : q = S.length) (hm : (b.length : Int) = m) (hn : b.length < n)
    (fin : ∀ S', Fr none S S' → lstAt S' S.length = some ((selB 0 b).map D.int) → Q (.ref S.length) S') :
    EW (compL (.fix (rngD 0 m)) (.one 3) q (fun L S => evT T R (.cons (.ix (.var 1) (.var 3)) .nil) L S) (fun L S => evE T R (.var 3) L S) n 0 L (S ++ [.lst []])) Q E := by
  subst hq hm
  have hlen := rngD_len (j := (b.length : Int)) (by omega)
  refine comp_by (ds := rngD 0 (b.length : Int)) (fun k acc S' => S'.length = S.length + 1 ∧ Fr none S S' ∧ wlstAt S' S.length = some acc ∧ acc.length ≤ k ∧ acc = (selB 0 (b.take k)).map D.int) ⟨by simp, Fr.app', wlst_new, by simp, by simp [selB]⟩ ?_ ?_ (by unfold lim; omega) ?_ (by omega)
  · rintro k acc S' ⟨h, F, w, l, e⟩
    exact ⟨rfl, w, l⟩
  · rintro k d acc S' hd ⟨h, F, w, l, e⟩
    obtain ⟨rfl, hk⟩ := rngD_at hd
    have hk' : k < b.length := by omega
    obtain ⟨o0, o1, o2, o3, rfl⟩ : ∃ o0 o1 o2 o3, L = [o0, o1, o2, o3] := by
      match L, hL with
      | [o0, o1, o2, o3], _ => exact ⟨_, _, _, _, rfl⟩
    have h1 : o1 = some (.ref r) := by simpa using h1
    subst h1
    have hl := F.lst hr (by simp)
    have e2 : atI (b.map D.bl) (k : Int) = some (.bl b[k]) := atI_k (by simp [hk'])
    have e3 := selB_succ b 0 k hk'
    walk_at "am"
    rw [Nat.zero_add] at e3
    rw [e] at l
    have l' : (selB 0 (List.take k b)).length ≤ k := by simpa using l
    refine ⟨fun z => ?_, fun z => ?_⟩
    · refine ⟨Fr.new F (Nat.le_refl _) Fr.set', ?_, ?_⟩ <;> simp [z, l']
    · exact ⟨by omega, by simp [z]⟩
  · rintro acc S' ⟨h, F, w, l, e⟩
    refine fin S' F ?_
    rw [lst_of_w w, e, show (rngD 0 (b.length : Int)).length = b.length by omega, List.take_length]
/-- an exception's classes, among some -/
def has (C : Str) (l : List Str) : List Bool := l.map fun c => (mroOf T C).contains c
structure ExcC (C : Str) : Prop where
  tn : T.tn.contains C = true
  cls : ∃ c, T.cls.lookup C = some c ∧ c.exc.isSome = true
theorem isi_exc {C c : Str} {ns : List Str} {ds : List D} {S : Sto} (h : ExcC C) (hc : T.cn.contains c = true) : isiD T S (.exc C ns ds) [c] = some ((mroOf T C).contains c) := by
  obtain ⟨cd, h1, h2⟩ := h.cls
  unfold isiD
  have e : tyName T S (.exc C ns ds) = some C := by
    unfold tyName
    dsimp only
    rw [h1]
    dsimp only
    rw [if_pos h2]
  rw [e]
  dsimp only
  rw [h.tn, List.all_cons, hc]
  simp
theorem sorts_ok {fu n : Nat} {S : Sto} {C : Str} {ns : List Str} {ds : List D} (h : ExcC C) : EW (run T fu (n + 1) "_law_sorts" [.exc C ns ds] S) (fun d S1 => ∃ r, d = .ref r ∧ S.length ≤ r ∧ Fr none S S1 ∧ lstAt S1 r = some ((selB 0 (has C sortsL)).map D.int)) fun _ _ => False := by
  refine run_W f_law_sorts rfl ?_
  unfold b_law_sorts
  have e : ∀ {S c} (_ : T.cn.contains c = true), isiD T S (.exc C ns ds) [c] = some ((mroOf T C).contains c) := fun hc => isi_exc h hc
  walk_at "am"
  refine pick_ok (b := has C sortsL) rfl rfl (by walk_at "am"; rfl) (by unfold has; rw [List.length_map]; decide) (by simp only [List.length_append, List.length_cons, List.length_nil]) (by unfold has; rw [List.length_map]; rfl) (by unfold has; rw [List.length_map]; decide) ?_
  intro S' F h
  exact ⟨_, rfl, by simp only [List.length_append]; omega, Fr.app'.app.app.app.app.app.app.app.app.app.app.app.app.app.app.trans F, h⟩
theorem bases_ok {fu n : Nat} {S : Sto} {C : Str} {ns : List Str} {ds : List D} (h : ExcC C) : EW (run T fu (n + 1) "_law_bases" [.exc C ns ds] S) (fun d S1 => ∃ r, d = .ref r ∧ S.length ≤ r ∧ Fr none S S1 ∧ lstAt S1 r = some ((selB 0 (has C basesL)).map D.int)) fun _ _ => False := by
  refine run_W f_law_bases rfl ?_
  unfold b_law_bases
  have e : ∀ {S c} (_ : T.cn.contains c = true), isiD T S (.exc C ns ds) [c] = some ((mroOf T C).contains c) := fun hc => isi_exc h hc
  walk_at "am"
  refine pick_ok (b := has C basesL) rfl rfl (by walk_at "am"; rfl) (by unfold has; rw [List.length_map]; decide) (by simp only [List.length_append, List.length_cons, List.length_nil]) (by unfold has; rw [List.length_map]; rfl) (by unfold has; rw [List.length_map]; decide) ?_
  intro S' F h
  exact ⟨_, rfl, by simp only [List.length_append]; omega, Fr.app'.app.app.trans F, h⟩
structure FitC (C : Str) (k : Int) : Prop where
  exc : ExcC C
  sorts : selB 0 (has C sortsL) = [k]
  bases : selB 0 (has C basesL) = if k > 13 then (if k < 16 then [1, 4] else [2, 5]) else [0, 3]
theorem fits_ok {fu n : Nat} {S : Sto} {C : Str} {k : Int} {ns : List Str} {ds : List D} (h : FitC C k) : EW (run T fu (n + 2) "_law_fits" [.exc C ns ds, .int k] S) (fun d S1 => d = .bl true ∧ Fr none S S1) fun _ _ => False := by
  refine run_W f_law_fits rfl ?_
  unfold b_law_fits
  have key : ∀ (b : Int), selB 0 (has C basesL) = [b, b + 3] → EW (run T fu (n + 1) "_law_sorts" [D.exc C ns ds] S) (fun x S1 =>
      EW (evE T (run T fu (n + 1)) (.lst (.cons (.var 1) .nil)) [some (.exc C ns ds), some (.int k), some (.int b)] S1) (fun y S2 => OW (cmpD .eq S2 x y) fun q => OW (truthy S2 (.bl q)) fun q' => IteW q' (EW (evE T (run T fu (n + 1)) (.cmp .eq (.call "_law_bases" (.cons (.var 0) .nil) [] .nil) (.lst (.cons (.var 2) (.cons (.bin .add (.var 2) (.con (.int 3))) .nil)))) [some (.exc C ns ds), some (.int k), some (.int b)] S2) (fun d S1 => d = .bl true ∧ Fr none S S1) fun _ _ => False) (D.bl q = .bl true ∧ Fr none S S2)) fun _ _ => False) fun _ _ => False := by
    intro b hb
    refine EW_of (sorts_ok h.exc) ?_
    rintro _ S1 ⟨r, rfl, _, F1, h1⟩
    walk_at "am"
    have e1 := eqD_lints (S := S1 ++ [.lst [.int k]]) (i := r) (j := S1.length) (ns := [k]) (ms := [k]) (by rw [lst_keep h1, h.sorts]) lst_new
    walk_at "am"
    refine EW_of (bases_ok h.exc) ?_
    rintro _ S2 ⟨r2, rfl, _, F2, h2⟩
    walk_at "am"
    have e1 := eqD_lints (S := S2 ++ [.lst [.int b, .int (b + 3)]]) (i := r2) (j := S2.length) (ns := [b, b + 3]) (ms := [b, b + 3]) (by rw [lst_keep h2, hb]) lst_new
    walk_at "am"
    exact ⟨by simp, (F1.app.trans F2).app⟩
  have hb := h.bases
  walk_at "am"
  refine ⟨fun z => ⟨fun y => ?_, fun y => ?_⟩, fun z => ?_⟩
  · exact key 1 (by rw [hb, if_pos z, if_pos y]; rfl)
  · exact key 2 (by rw [hb, if_pos z, if_neg y]; rfl)
  · exact key 0 (by rw [hb, if_neg z]; rfl)
theorem fit_InvalidBlocks : FitC "InvalidBlocks" 0 := ⟨⟨by decide +kernel, _, rfl, rfl⟩, by decide +kernel, by decide +kernel⟩
theorem fit_InvalidPages : FitC "InvalidPages" 1 := ⟨⟨by decide +kernel, _, rfl, rfl⟩, by decide +kernel, by decide +kernel⟩
theorem fit_InvalidNames : FitC "InvalidNames" 2 := ⟨⟨by decide +kernel, _, rfl, rfl⟩, by decide +kernel, by decide +kernel⟩
theorem fit_InvalidPrice : FitC "InvalidPrice" 3 := ⟨⟨by decide +kernel, _, rfl, rfl⟩, by decide +kernel, by decide +kernel⟩
theorem fit_InvalidNumber : FitC "InvalidNumber" 4 := ⟨⟨by decide +kernel, _, rfl, rfl⟩, by decide +kernel, by decide +kernel⟩
theorem fit_InvalidFlag : FitC "InvalidFlag" 5 := ⟨⟨by decide +kernel, _, rfl, rfl⟩, by decide +kernel, by decide +kernel⟩
theorem fit_InvalidDrift : FitC "InvalidDrift" 6 := ⟨⟨by decide +kernel, _, rfl, rfl⟩, by decide +kernel, by decide +kernel⟩
theorem fit_InvalidText : FitC "InvalidText" 7 := ⟨⟨by decide +kernel, _, rfl, rfl⟩, by decide +kernel, by decide +kernel⟩
theorem fit_InvalidName : FitC "InvalidName" 8 := ⟨⟨by decide +kernel, _, rfl, rfl⟩, by decide +kernel, by decide +kernel⟩
theorem fit_InvalidIndex : FitC "InvalidIndex" 9 := ⟨⟨by decide +kernel, _, rfl, rfl⟩, by decide +kernel, by decide +kernel⟩
theorem fit_InvalidClaim : FitC "InvalidClaim" 10 := ⟨⟨by decide +kernel, _, rfl, rfl⟩, by decide +kernel, by decide +kernel⟩
theorem fit_NotADrive : FitC "NotADrive" 11 := ⟨⟨by decide +kernel, _, rfl, rfl⟩, by decide +kernel, by decide +kernel⟩
theorem fit_InvalidRows : FitC "InvalidRows" 12 := ⟨⟨by decide +kernel, _, rfl, rfl⟩, by decide +kernel, by decide +kernel⟩
theorem fit_InvalidLoad : FitC "InvalidLoad" 13 := ⟨⟨by decide +kernel, _, rfl, rfl⟩, by decide +kernel, by decide +kernel⟩
theorem fit_UnknownName : FitC "UnknownName" 14 := ⟨⟨by decide +kernel, _, rfl, rfl⟩, by decide +kernel, by decide +kernel⟩
theorem fit_InUse : FitC "InUse" 15 := ⟨⟨by decide +kernel, _, rfl, rfl⟩, by decide +kernel, by decide +kernel⟩
theorem fit_OtherNames : FitC "OtherNames" 16 := ⟨⟨by decide +kernel, _, rfl, rfl⟩, by decide +kernel, by decide +kernel⟩
theorem fit_Sticks : FitC "Sticks" 17 := ⟨⟨by decide +kernel, _, rfl, rfl⟩, by decide +kernel, by decide +kernel⟩
theorem fit_TooMany : FitC "TooMany" 18 := ⟨⟨by decide +kernel, _, rfl, rfl⟩, by decide +kernel, by decide +kernel⟩
theorem fit_NothingToUndo : FitC "NothingToUndo" 19 := ⟨⟨by decide +kernel, _, rfl, rfl⟩, by decide +kernel, by decide +kernel⟩
theorem fit_NotAsked : FitC "NotAsked" 20 := ⟨⟨by decide +kernel, _, rfl, rfl⟩, by decide +kernel, by decide +kernel⟩
theorem fit_Broken : FitC "Broken" 21 := ⟨⟨by decide +kernel, _, rfl, rfl⟩, by decide +kernel, by decide +kernel⟩
/-- what is given, as an item -/
def Item (x : Str) (d : D) (e : D) : Prop := ∃ k C ns ds, e = .tup [.int k, .exc C ns ds] ∧ FitC C k ∧ attrD T [] (.exc C ns ds) x = some d
end K01
set_option maxHeartbeats 4000000
namespace K01
open PySem Am
local macro_rules | `(tactic| walk_at "am") => `(tactic| simp (disch := first | assumption | omega | (simp only [List.length_append, List.length_cons, List.length_nil, List.length_set]; done) | (simp only [List.length_append, List.length_cons, List.length_nil, List.length_set]; omega) | decide +kernel) only [Z_nil, Z_cons, Z_exp, Z_set, Z_unpack, Z_setat, Z_setix, Z_ret, Z_retN, Z_raise, Z_brk, Z_cont, Z_pass, Z_ite, Z_for, Z_whl,
  setTg_1, setTg_2, setTg_3, W_var, W_con, W_glob, W_bin, W_neg, W_cmp, W_chain, W_and, W_or, W_not, W_ite, W_tup, W_lst, W_dic0, W_dic1, W_ix, W_sl, W_call, W_blt, W_mk, MkW_l, m_BadValue, m_InvalidBlocks, m_InvalidPages, m_InvalidNames, m_InvalidPrice, m_InvalidNumber, m_InvalidFlag, m_InvalidDrift, m_InvalidText, m_InvalidName, m_InvalidIndex, m_InvalidClaim, m_NotADrive, m_InvalidRows, m_InvalidLoad, m_BadName, m_UnknownName, m_InUse, m_NoAnswer, m_OtherNames, m_Sticks, m_TooMany, m_NothingToUndo, m_NotAsked, m_Broken, bw_given, bw_index, bw_limit, bw_b1, bw_b2, bw_b3, W_isi, W_comp, W_attr, W_nil, W_cons, W_T0, W_T1, W_no, W_so, W_seq, W_rng1, W_rng2,
  f_law_cell, f_law_pool, f_law_draw, f_law_word, f_law_things, f_law_sorts, f_law_bases, f_law_fits, f_law_same, f_law_near, f_law_far, f_law_counted, f_law_one_right, f_law_bare_right, f_law, OW_some, OW_none, OW_map, VW_some, IteW_t, IteW_f, IteW_d, IteW_n, EW_ok,
  B_add, B_sub, B_mul, B_fdiv, B_mod, B_pow, B_addS, B_addT, B_addL, c_lt, c_le, c_gt, c_ge, c_eqD, c_neD, eqD_int, eqD_str,  le_lim, mulOk_by, log_by', rngOk_by, forall_const, and_true, and_self, Int.reduceLT, Int.reduceLE, Nat.reduceLT, Nat.reduceLeDiff, Int.reducePow, Int.reduceToNat, Int.reduceNeg, not_true_eq_false, not_false_eq_true, false_implies, true_implies, reduceIte,  t_non, t_bl, t_int, t_tup,
  b_len, len_ref, len_tup, len_str, b_int, b_intb, b_abs, b_max2, b_min2, b_tupT, b_tupL, b_all, b_any, b_sum, ix_tup, ix_ref, sl_tup, sl_ref, setix_ref, set_nw, keyD, lst_nw, wlst_nw, lst_app, wlst_app, dic_nw, dic_app, SeqW_ref, SeqW_tup, Itv.size, wipeL, Option.isSome_some, Option.getD_some, List.length_map, true_and, lst_set, wlst_set, atI_0, atI_1, atI_2, ixN_30, ixN_31, ixN_32, bind_0, bind_1, bind_2,
  startL, List.map_cons, List.map_nil, List.length_cons, List.length_nil, List.length_append, List.length_set, List.replicate_succ, List.replicate_zero, List.cons_append, List.nil_append, List.append_nil, Nat.reduceSub, Nat.reduceAdd,
  List.set_cons_succ, List.set_cons_zero, List.getElem?_cons_succ, List.getElem?_cons_zero, Option.bind_some, Option.map_some, List.set_set, *])
theorem at_k {xs : List D} {k : Nat} {j : Int} {d : D} (h : xs[k]? = some d) (hj : j = (k : Int)) : atI xs j = some d := by rw [hj]; exact atI_k h
/-- the comprehension of numbered things -/
theorem numb_ok {es : List D} {S : Sto} {r : Nat} {o0 o2 o3 : Option D} {R : Str → List D → Sto → Out D} {Q : D → Sto → Prop} {E : D → Sto → Prop} (hr : lstAt S r = some es) {q n : Nat} {m : Int} (hq : q = S.length) (hm : (es.length : Int) = m) (hn : es.length < n) (hl : es.length ≤ lim)
    (fin : ∀ S' ys, Fr none S S' → q < S'.length → wlstAt S' q = some ys → ys.length = es.length → (∀ (k : Nat) (y : D), ys[k]? = some y → ∃ e, es[k]? = some e ∧ y = D.tup [.int k, e]) → Q (.ref q) S') :
    EW (compL (.fix (rngD 0 m)) (.one 3) q (fun L S => evT T R .nil L S) (fun L S => evE T R (.tup (.cons (.var 3) (.cons (.ix (.var 1) (.var 3)) .nil))) L S) n 0 [o0, some (.ref r), o2, o3] (S ++ [.lst []])) Q E := by
  subst hm
  have hlen := rngD_len (j := (es.length : Int)) (by omega)
  refine comp_rel (ds := rngD 0 (es.length : Int)) (fun k y _ => ∃ e, es[k]? = some e ∧ y = .tup [.int k, e]) hq (fun S' k _ => rfl) (fun k y S1 S2 h _ _ => h) ?_ (by omega) (by omega) ?_
  · intro k d S' hd F _
    obtain ⟨rfl, hk⟩ := rngD_at hd
    have hk' : k < es.length := by omega
    have hl := F.lst hr (by simp)
    have e2 : atI es (k : Int) = some es[k] := atI_k (by simp [hk'])
    walk_at "am"
    exact ⟨Fr.refl _ _, _, by simp [hk'], rfl⟩
  · intro S' ys F h1 h2 h3 h4
    exact fin S' ys F h1 h2 (by omega) h4
theorem near_ok {fu n : Nat} {S : Sto} {d : D} : EW (run T fu (n + 1) "_law_near" [d] S) (fun r S1 => ∃ k ds, r = .ref k ∧ Fr none S S1 ∧ wlstAt S1 k = some ds ∧ ds.length ≤ 100 ∧ ∀ e ∈ ds, Item "given" d e) fun _ _ => False := by
  refine run_W f_law_near rfl ?_
  unfold b_law_near
  walk_at "am"
  refine numb_ok (by walk_at "am"; rfl) (by simp only [List.length_append, List.length_cons, List.length_nil]) rfl (by simp [rngD]) (by simp [lim]) ?_
  intro S' ys F h1 h2 h3 h4
  have h5 : ∀ X, wlstAt (S' ++ X) _ = some ys := fun X => by
    rw [wlst_app h1]; exact h2
  walk_at "am"
  refine ⟨_, _, rfl, ((Fr.app'.app.app.app.app.trans F).app).app, wlst_nw (by simp), by simp [h3], ?_⟩
  intro e he
  rcases List.mem_append.mp he with he | he
  · obtain ⟨k, hk⟩ := List.mem_iff_getElem?.mp he
    obtain ⟨x, hx, rfl⟩ := h4 k e hk
    have hk2 : k < 12 := (List.getElem?_eq_some_iff.mp hx).1
    match k, hk2, hx with
    | 0, _, hx => cases hx; exact ⟨_, _, _, _, rfl, fit_InvalidBlocks, rfl⟩
    | 1, _, hx => cases hx; exact ⟨_, _, _, _, rfl, fit_InvalidPages, rfl⟩
    | 2, _, hx => cases hx; exact ⟨_, _, _, _, rfl, fit_InvalidNames, rfl⟩
    | 3, _, hx => cases hx; exact ⟨_, _, _, _, rfl, fit_InvalidPrice, rfl⟩
    | 4, _, hx => cases hx; exact ⟨_, _, _, _, rfl, fit_InvalidNumber, rfl⟩
    | 5, _, hx => cases hx; exact ⟨_, _, _, _, rfl, fit_InvalidFlag, rfl⟩
    | 6, _, hx => cases hx; exact ⟨_, _, _, _, rfl, fit_InvalidDrift, rfl⟩
    | 7, _, hx => cases hx; exact ⟨_, _, _, _, rfl, fit_InvalidText, rfl⟩
    | 8, _, hx => cases hx; exact ⟨_, _, _, _, rfl, fit_InvalidName, rfl⟩
    | 9, _, hx => cases hx; exact ⟨_, _, _, _, rfl, fit_InvalidIndex, rfl⟩
    | 10, _, hx => cases hx; exact ⟨_, _, _, _, rfl, fit_InvalidClaim, rfl⟩
    | 11, _, hx => cases hx; exact ⟨_, _, _, _, rfl, fit_NotADrive, rfl⟩
  · rw [List.mem_singleton] at he
    subst he
    exact ⟨_, _, _, _, rfl, fit_UnknownName, rfl⟩
theorem far_ok {fu n : Nat} {S : Sto} {d : D} : EW (run T fu (n + 1) "_law_far" [d] S) (fun r S1 => ∃ k ds, r = .ref k ∧ Fr none S S1 ∧ wlstAt S1 k = some ds ∧ ds.length ≤ 100 ∧ ∀ e ∈ ds, Item "given" d e) fun _ _ => False := by
  refine run_W f_law_far rfl ?_
  unfold b_law_far
  walk_at "am"
  refine numb_ok (by walk_at "am"; rfl) (by simp only [List.length_append, List.length_cons, List.length_nil]) rfl (by simp [rngD]) (by simp [lim]) ?_
  intro S' ys F h1 h2 h3 h4
  have h5 : ∀ X, wlstAt (S' ++ X) _ = some ys := fun X => by
    rw [wlst_app h1]; exact h2
  walk_at "am"
  refine ⟨_, _, rfl, ((Fr.app'.app.app.app.app.app.app.trans F).app).app, wlst_nw (by simp), by simp [h3], ?_⟩
  intro e he
  rcases List.mem_append.mp he with he | he
  · obtain ⟨k, hk⟩ := List.mem_iff_getElem?.mp he
    obtain ⟨x, hx, rfl⟩ := h4 k e hk
    have hk2 : k < 12 := (List.getElem?_eq_some_iff.mp hx).1
    match k, hk2, hx with
    | 0, _, hx => cases hx; exact ⟨_, _, _, _, rfl, fit_InvalidBlocks, rfl⟩
    | 1, _, hx => cases hx; exact ⟨_, _, _, _, rfl, fit_InvalidPages, rfl⟩
    | 2, _, hx => cases hx; exact ⟨_, _, _, _, rfl, fit_InvalidNames, rfl⟩
    | 3, _, hx => cases hx; exact ⟨_, _, _, _, rfl, fit_InvalidPrice, rfl⟩
    | 4, _, hx => cases hx; exact ⟨_, _, _, _, rfl, fit_InvalidNumber, rfl⟩
    | 5, _, hx => cases hx; exact ⟨_, _, _, _, rfl, fit_InvalidFlag, rfl⟩
    | 6, _, hx => cases hx; exact ⟨_, _, _, _, rfl, fit_InvalidDrift, rfl⟩
    | 7, _, hx => cases hx; exact ⟨_, _, _, _, rfl, fit_InvalidText, rfl⟩
    | 8, _, hx => cases hx; exact ⟨_, _, _, _, rfl, fit_InvalidName, rfl⟩
    | 9, _, hx => cases hx; exact ⟨_, _, _, _, rfl, fit_InvalidIndex, rfl⟩
    | 10, _, hx => cases hx; exact ⟨_, _, _, _, rfl, fit_InvalidClaim, rfl⟩
    | 11, _, hx => cases hx; exact ⟨_, _, _, _, rfl, fit_NotADrive, rfl⟩
  · rw [List.mem_singleton] at he
    subst he
    exact ⟨_, _, _, _, rfl, fit_UnknownName, rfl⟩
theorem counted_ok {fu n : Nat} {S : Sto} {d : D} : EW (run T fu (n + 1) "_law_counted" [d] S) (fun r S1 => ∃ k ds, r = .ref k ∧ Fr none S S1 ∧ wlstAt S1 k = some ds ∧ ds.length ≤ 100 ∧ ∀ e ∈ ds, Item "index" d e) fun _ _ => False := by
  refine run_W f_law_counted rfl ?_
  unfold b_law_counted
  walk_at "am"
  refine ⟨_, _, rfl, Fr.app'.app.app.app.app, wlst_nw (by simp), by simp, ?_⟩
  intro e he
  simp only [List.mem_cons, List.not_mem_nil, or_false] at he
  rcases he with rfl | rfl | rfl | rfl | rfl | rfl | rfl | rfl
  · exact ⟨_, _, _, _, rfl, fit_InvalidRows, rfl⟩
  · exact ⟨_, _, _, _, rfl, fit_InvalidRows, rfl⟩
  · exact ⟨_, _, _, _, rfl, fit_InvalidLoad, rfl⟩
  · exact ⟨_, _, _, _, rfl, fit_InvalidLoad, rfl⟩
  · exact ⟨_, _, _, _, rfl, fit_InUse, rfl⟩
  · exact ⟨_, _, _, _, rfl, fit_InUse, rfl⟩
  · exact ⟨_, _, _, _, rfl, fit_NotAsked, rfl⟩
  · exact ⟨_, _, _, _, rfl, fit_NotAsked, rfl⟩
theorem attr_exc {T : Tab} {R : Str → List D → Sto → Out D} {C : Str} {ns : List Str} {ds : List D} {f : Str} {S : Sto} {d : D} {Q : D → Sto → Prop} (h : attrD T [] (.exc C ns ds) f = some d) : AtW T R (.exc C ns ds) f S Q = Q d S := by
  rw [AtW_none rfl]
  rw [show attrD T S (.exc C ns ds) f = some d from h]
  rfl
theorem Fr.nice {S S1 : Sto} {d : D} (a : Fr none S S1) (h : Nice S d) : Nice S1 d := h.fr a
/-- a walk over items -/
theorem items_ok {R : Po} {x : Str} {d mate : D} {S : Sto} {r : Nat} {ds : List D} {b : Am.Loc → Sto → SOut} {o2 o3 : Option D} (hr : lstAt S r = some ds) (hn : Nice S d) (hi : ∀ e ∈ ds, Item x d e)
    (step : ∀ k C ns es (o2 o3 : Option D) S', FitC C k → attrD T [] (.exc C ns es) x = some d → Nice S' d → (∀ P : Po, (∀ S1, Fr none S' S1 → P.nx [some d, some mate, some (.int k), some (.exc C ns es)] S1) → SW (b [some d, some mate, some (.int k), some (.exc C ns es)] S') P))
    (fin : ∀ S1 (o2 o3 : Option D), Fr none S S1 → R.nx [some d, some mate, o2, o3] S1) {m : Nat} (hm : ds.length < m) :
    SW (forL (.lst r) (.two 2 3) b m 0 [some d, some mate, o2, o3] S) R := by
  refine for_lst (ds := ds) (fun j L S' => (∃ o2 o3, L = [some d, some mate, o2, o3]) ∧ Fr none S S') ⟨⟨_, _, rfl⟩, Fr.refl _ _⟩ ?_ ?_ ?_ hm
  · rintro j L S' ⟨_, F⟩
    exact F.lst hr (by simp)
  · rintro j e L S' he ⟨⟨o2, o3, rfl⟩, F⟩
    obtain ⟨k, C, ns, es, rfl, h1, h2⟩ := hi e (List.mem_of_getElem? he)
    rw [setTg_2, OW_some]
    refine step k C ns es o2 o3 S' h1 h2 (hn.fr F) _ fun S1 F1 => ⟨⟨_, _, rfl⟩, F.trans F1⟩
  · rintro L S' ⟨⟨o2, o3, rfl⟩, F⟩
    exact fin S' o2 o3 F
theorem one_right_ok {fu n : Nat} {S : Sto} {d mate : D} (hd : Nice S d) (hm : Nice S mate) : EW (run T fu (n + 3) "_law_one_right" [d, mate] S) (fun r S1 => r = .bl true ∧ Fr none S S1) fun _ _ => False := by
  refine run_W f_law_one_right rfl ?_
  unfold b_law_one_right
  walk_at "am"
  refine EW_of near_ok ?_
  rintro _ S1 ⟨k1, ds1, rfl, F1, w1, l1, i1⟩
  walk_at "am"
  refine EW_of far_ok ?_
  rintro _ S2 ⟨k2, ds2, rfl, F2, w2, l2, i2⟩
  have w1' := F2.wlst w1 (by simp)
  walk_at "am"
  refine items_ok lst_new (hd.fr (F1.trans F2).app) (fun e he => (List.mem_append.mp he).elim (i1 e) (i2 e)) ?_ ?_ (by simp)
  · intro k C ns es o2 o3 S' hf ha hn P hP
    walk_at "am"
    refine EW_of (fits_ok hf) ?_
    rintro _ S3 ⟨rfl, F3⟩
    walk_at "am"
    rw [attr_exc ha]
    walk_at "am"
    refine EW_of (same_ok (hn.fr F3)) ?_
    rintro _ S4 ⟨rfl, rfl⟩
    walk_at "am"
  · intro S3 o2 o3 F3
    have F3' := (F1.trans F2).app.trans F3
    walk_at "am"
    refine EW_of counted_ok ?_
    rintro _ S4 ⟨k4, ds4, rfl, F4, w4, l4, i4⟩
    have w4' := lst_of_w w4
    walk_at "am"
    refine items_ok w4' (hd.fr (F3'.trans F4)) i4 ?_ ?_ (by omega)
    · intro k C ns es o2 o3 S' hf ha hn P hP
      walk_at "am"
      refine EW_of (fits_ok hf) ?_
      rintro _ S5 ⟨rfl, F5⟩
      walk_at "am"
      rw [attr_exc ha]
      walk_at "am"
      refine EW_of (same_ok (hn.fr F5)) ?_
      rintro _ S6 ⟨rfl, rfl⟩
      walk_at "am"
    · intro S5 o2 o3 F5
      have F5' := (F3'.trans F4).trans F5
      walk_at "am"
      refine for_lst (ds := [.exc "TooMany" ["limit"] [d], .exc "TooMany" ["limit"] [d]]) (fun j L S' => (∃ o2 o3, L = [some d, some mate, o2, o3]) ∧ Fr none (S5 ++ [.lst [.exc "TooMany" ["limit"] [d], .exc "TooMany" ["limit"] [d]]]) S') ⟨⟨_, _, rfl⟩, Fr.refl _ _⟩ ?_ ?_ ?_ (by simp)
      · rintro j L S' ⟨_, F⟩
        exact F.lst lst_new (by simp)
      · rintro j e L S' he ⟨⟨o2, o3, rfl⟩, F⟩
        have : e = .exc "TooMany" ["limit"] [d] := by simpa using List.mem_of_getElem? he
        subst this
        rw [setTg_1, OW_some]
        walk_at "am"
        refine EW_of (fits_ok fit_TooMany) ?_
        rintro _ S7 ⟨rfl, F7⟩
        walk_at "am"
        rw [attr_exc (d := d) rfl]
        walk_at "am"
        refine EW_of (same_ok (hd.fr ((F5'.app.trans F).trans F7))) ?_
        rintro _ S8 ⟨rfl, rfl⟩
        walk_at "am"
        exact ⟨⟨_, _, rfl⟩, F.trans F7⟩
      · rintro L S' ⟨⟨o2, o3, rfl⟩, F⟩
        have F6' := F5'.app.trans F
        walk_at "am"
        refine for_lst (ds := [.exc "Broken" ["shown", "index"] [mate, d], .exc "Broken" ["shown", "index"] [mate, d], .exc "Broken" ["shown", "index"] [mate, d]]) (fun j L S6 => (∃ o2 o3, L = [some d, some mate, o2, o3]) ∧ Fr none (S' ++ [.lst [.exc "Broken" ["shown", "index"] [mate, d], .exc "Broken" ["shown", "index"] [mate, d], .exc "Broken" ["shown", "index"] [mate, d]]]) S6) ⟨⟨_, _, rfl⟩, Fr.refl _ _⟩ ?_ ?_ ?_ (by simp)
        · rintro j L S' ⟨_, F⟩
          exact F.lst lst_new (by simp)
        · rintro j e L S6 he ⟨⟨o2, o3, rfl⟩, F6⟩
          have : e = .exc "Broken" ["shown", "index"] [mate, d] := by simpa using List.mem_of_getElem? he
          subst this
          rw [setTg_1, OW_some]
          walk_at "am"
          refine EW_of (fits_ok fit_Broken) ?_
          rintro _ S7 ⟨rfl, F7⟩
          walk_at "am"
          rw [attr_exc (d := d) rfl]
          walk_at "am"
          refine EW_of (same_ok (hd.fr ((F6'.app.trans F6).trans F7))) ?_
          rintro _ S8 ⟨rfl, rfl⟩
          walk_at "am"
          rw [attr_exc (d := mate) rfl]
          walk_at "am"
          refine EW_of (same_ok (hm.fr ((F6'.app.trans F6).trans F7))) ?_
          rintro _ S8 ⟨rfl, rfl⟩
          walk_at "am"
          exact ⟨⟨_, _, rfl⟩, F6.trans F7⟩
        · rintro L S6 ⟨⟨o2, o3, rfl⟩, F6⟩
          walk_at "am"
          exact F6'.app.trans F6
theorem exc_fit {C : Str} (h : ExcC C) : ExcC C := h
theorem fit_BadValue : ExcC "BadValue" := ⟨by decide +kernel, _, rfl, rfl⟩
theorem fit_BadName : ExcC "BadName" := ⟨by decide +kernel, _, rfl, rfl⟩
theorem fit_NoAnswer : ExcC "NoAnswer" := ⟨by decide +kernel, _, rfl, rfl⟩
theorem pd_lls {n : Nat} {S : Sto} : ∀ {ds : List D} {L : List (List Int)}, ds.length = L.length → (∀ (k : Nat) (d : D), ds[k]? = some d → ∃ r ns, d = .ref r ∧ L[k]? = some ns ∧ lstAt S r = some (ns.map D.int)) → ds.mapM (pd (n + 1) S) = some (L.map fun ns => .list (ns.map PyData.int))
  | [], [], _, _ => rfl
  | [], _ :: _, h, _ => by simp at h
  | _ :: _, [], h, _ => by simp at h
  | d :: ds, ns :: L, h, q => by
    obtain ⟨r, ns', rfl, e, hr⟩ := q 0 _ rfl
    cases e
    rw [List.mapM_cons, pd_lints hr, pd_lls (by simpa using h) fun k d hk => q (k + 1) d (by simpa using hk)]
    rfl
theorem eqD_lls {S : Sto} {i j : Nat} {ds es : List D} {L : List (List Int)} (hi : lstAt S i = some ds) (hj : lstAt S j = some es) (h1 : ds.length = L.length) (h2 : es.length = L.length)
    (q1 : ∀ (k : Nat) (d : D), ds[k]? = some d → ∃ r ns, d = .ref r ∧ L[k]? = some ns ∧ lstAt S r = some (ns.map D.int)) (q2 : ∀ (k : Nat) (d : D), es[k]? = some d → ∃ r ns, d = .ref r ∧ L[k]? = some ns ∧ lstAt S r = some (ns.map D.int)) : eqD S (.ref i) (.ref j) = some true := by
  have lay : ∀ L : List (List Int), PyData.canLayAll0 (L.map fun ns => .list (ns.map PyData.int)) = true := by
    intro L
    induction L with
    | nil => simp [PyData.canLayAll0]
    | cons a r ih => simp [PyData.canLayAll0, PyData.canLay0, lay_ints, ih]
  have dep : ∀ L : List (List Int), PyData.depthAll (L.map fun ns => .list (ns.map PyData.int)) ≤ 1 := by
    intro L
    induction L with
    | nil => simp [PyData.depthAll]
    | cons a r ih => simp [PyData.depthAll, PyData.depth, depth_ints]; omega
  have p1 : ∀ {i ds}, lstAt S i = some ds → ds.length = L.length → (∀ (k : Nat) (d : D), ds[k]? = some d → ∃ r ns, d = .ref r ∧ L[k]? = some ns ∧ lstAt S r = some (ns.map D.int)) → pd 60 S (.ref i) = some (.list (L.map fun ns => .list (ns.map PyData.int))) := by
    intro i ds h1 h2 h3
    unfold pd
    rw [h1]
    dsimp only
    rw [pd_lls h2 h3]
    rfl
  have ok : okd (.list (L.map fun ns => .list (ns.map PyData.int))) = true := by
    unfold okd SeqAt.shaped
    have := dep L
    simp [PyData.canLay0, PyData.depth, lay]
    omega
  rw [eqD_of (p1 hi h1 q1) (p1 hj h2 q2) ok ok, SeqAt.eqv_refl]
  unfold okd SeqAt.shaped at ok
  rw [Bool.and_eq_true] at ok
  exact ok.1
/-- lists made of three errors, compared with three lists -/
theorem three_ok {f : Str} {fd : FDef} {Ls : List (List Int)} {S : Sto} {r : Nat} {o0 o1 o2 o3 : Option D} {R : Str → List D → Sto → Out D} {Q : D → Sto → Prop} {E : D → Sto → Prop} 
    (hf : T.fn.lookup f = some fd) (hb : ∀ e, fd.shp.bind [e] [] [] = some [e]) (hr : lstAt S r = some [.exc "BadValue" [] [], .exc "BadName" [] [], .exc "NoAnswer" [] []]) (hl : Ls.length = 3) {q m : Nat} (hq : q = S.length) (hm : 3 < m)
    (step : ∀ (k : Nat) e S1, [D.exc "BadValue" [] [], .exc "BadName" [] [], .exc "NoAnswer" [] []][k]? = some e → EW (R f [e] S1) (fun y S2 => ∃ q ns, y = .ref q ∧ S1.length ≤ q ∧ Fr none S1 S2 ∧ Ls[k]? = some ns ∧ lstAt S2 q = some (ns.map D.int)) fun _ _ => False)
    (fin : ∀ S' ys, Fr none S S' → wlstAt S' q = some ys → ys.length = 3 → (∀ (k : Nat) (y : D), ys[k]? = some y → ∃ q ns, y = D.ref q ∧ Ls[k]? = some ns ∧ lstAt S' q = some (ns.map D.int)) → Q (.ref q) S') :
    EW (compL (.lst r) (.one 1) q (fun L S => evT T R .nil L S) (fun L S => evE T R (.call f (.cons (.var 1) .nil) [] .nil) L S) m 0 [o0, o1, o2, o3] (S ++ [.lst []])) Q E := by
  subst hq
  refine comp_rel (ds := [.exc "BadValue" [] [], .exc "BadName" [] [], .exc "NoAnswer" [] []]) (fun k y S1 => ∃ r ns, y = .ref r ∧ S.length < r ∧ Ls[k]? = some ns ∧ lstAt S1 r = some (ns.map D.int)) rfl ?_ ?_ ?_ (by simp [lim]) (by simpa using hm) ?_
  · intro S3 k F3
    have := F3.lst hr (by simp)
    simp only [Itv.at, this]
    rfl
  · rintro k y S1 S2 ⟨r, ns, rfl, h0, h1, h2⟩ F1 F2
    exact ⟨r, ns, rfl, h0, h1, F2.lst h2 (by intro z; cases z; omega)⟩
  · intro k d S3 hd F3 hq3
    rw [setTg_1, OW_some, W_T0]
    refine ⟨rfl, rfl, ?_⟩
    walk_at "am"
    refine EW_of (step k d S3 hd) ?_
    rintro y S4 ⟨q, ns, rfl, h0, F4, h1, h4⟩
    exact ⟨F4, q, ns, rfl, by omega, h1, h4⟩
  · intro S' ys F h1 h2 h3 h4
    exact fin S' ys F h2 h3 fun k y hy => let ⟨r, ns, e, _, h⟩ := h4 k y hy; ⟨r, ns, e, h⟩
theorem bare_right_ok {fu n : Nat} {S : Sto} : EW (run T fu (n + 3) "_law_bare_right" [] S) (fun r S1 => r = .bl true ∧ Fr none S S1) fun _ _ => False := by
  refine run_W f_law_bare_right rfl ?_
  unfold b_law_bare_right
  walk_at "am"
  refine for_lst (ds := [.tup [.int 16, .exc "OtherNames" [] []], .tup [.int 17, .exc "Sticks" [] []], .tup [.int 19, .exc "NothingToUndo" [] []]]) (fun j L S' => (∃ o2 o3, L = [o2, o3, none, none]) ∧ Fr none (S ++ [.lst [.tup [.int 16, .exc "OtherNames" [] []], .tup [.int 17, .exc "Sticks" [] []], .tup [.int 19, .exc "NothingToUndo" [] []]]]) S') ⟨⟨_, _, rfl⟩, Fr.refl _ _⟩ ?_ ?_ ?_ (by simp)
  · rintro j L S' ⟨_, F⟩
    exact F.lst lst_new (by simp)
  · rintro j e L S' he ⟨⟨o2, o3, rfl⟩, F⟩
    have he : ∃ k C, e = .tup [.int k, .exc C [] []] ∧ FitC C k := by
      match j, he with
      | 0, h => cases h; exact ⟨_, _, rfl, fit_OtherNames⟩
      | 1, h => cases h; exact ⟨_, _, rfl, fit_Sticks⟩
      | 2, h => cases h; exact ⟨_, _, rfl, fit_NothingToUndo⟩
      | n + 3, h => simp at h
    obtain ⟨k, C, rfl, hf⟩ := he
    rw [setTg_2, OW_some]
    walk_at "am"
    refine EW_of (fits_ok hf) ?_
    rintro _ S5 ⟨rfl, F5⟩
    walk_at "am"
    exact ⟨⟨_, _, rfl⟩, F.trans F5⟩
  · rintro L S' ⟨⟨o2, o3, rfl⟩, F⟩
    walk_at "am"
    have F' := F.app (X := [.lst [D.exc "BadValue" [] [], D.exc "BadName" [] [], D.exc "NoAnswer" [] []]])
    have hS : lstAt (S' ++ [.lst [D.exc "BadValue" [] [], D.exc "BadName" [] [], D.exc "NoAnswer" [] []]]) S'.length = some [D.exc "BadValue" [] [], D.exc "BadName" [] [], D.exc "NoAnswer" [] []] := lst_new
    rw [show S'.length + 1 = (S' ++ [.lst [D.exc "BadValue" [] [], D.exc "BadName" [] [], D.exc "NoAnswer" [] []]] : Sto).length by simp]
    generalize S' ++ [.lst [D.exc "BadValue" [] [], D.exc "BadName" [] [], D.exc "NoAnswer" [] []]] = S1 at *
    have hS := hS
    refine three_ok (Ls := [[], [], []]) f_law_sorts (fun _ => rfl) hS rfl rfl (by decide) (fun k e S1 he => ?_) ?_
    · have he : ∃ C, e = .exc C [] [] ∧ ExcC C ∧ selB 0 (has C sortsL) = [] ∧ [[], [], []][k]? = some ([] : List Int) := by
        match k, he with
        | 0, h => cases h; exact ⟨_, rfl, fit_BadValue, by decide +kernel, rfl⟩
        | 1, h => cases h; exact ⟨_, rfl, fit_BadName, by decide +kernel, rfl⟩
        | 2, h => cases h; exact ⟨_, rfl, fit_NoAnswer, by decide +kernel, rfl⟩
        | n + 3, h => simp at h
      obtain ⟨C, rfl, hC, hs, hk⟩ := he
      refine EW_of (sorts_ok hC) ?_
      rintro _ S4 ⟨r, rfl, h0, F4, h4⟩
      exact ⟨r, [], rfl, h0, F4, hk, by rw [h4, hs]⟩
    · intro S3 ys F3 w3 hl q3
      walk_at "am"
      have key := eqD_lls (S := S3 ++ [MO.lst []] ++ [MO.lst []] ++ [MO.lst []] ++ [MO.lst [D.ref S3.length, D.ref (S3.length + 1), D.ref (S3.length + 1 + 1)]]) (i := S1.length) (j := S3.length + 1 + 1 + 1) (L := [[], [], []]) (ds := ys)
        (lst_keep (lst_keep (lst_keep (lst_keep (lst_of_w w3))))) (lst_nw (by simp)) hl rfl
        (fun k d hk => by
          obtain ⟨r, ns, e1, e2, e3⟩ := q3 k d hk
          exact ⟨r, ns, e1, e2, lst_keep (lst_keep (lst_keep (lst_keep e3)))⟩)
        (fun k d hk => by
          match k, hk with
          | 0, h => cases h; exact ⟨_, [], rfl, rfl, by walk_at "am"⟩
          | 1, h => cases h; exact ⟨_, [], rfl, rfl, by walk_at "am"⟩
          | 2, h => cases h; exact ⟨_, [], rfl, rfl, by walk_at "am"⟩
          | n + 3, h => simp at h)
      have hS3 := lst_keep (X := [MO.lst [D.ref S3.length, D.ref (S3.length + 1), D.ref (S3.length + 1 + 1)]]) (lst_keep (X := [MO.lst []]) (lst_keep (X := [MO.lst []]) (lst_keep (X := [MO.lst []]) (F3.lst hS (by simp)))))
      have F4 : Fr none _ (S3 ++ [MO.lst []] ++ [MO.lst []] ++ [MO.lst []] ++ [MO.lst [D.ref S3.length, D.ref (S3.length + 1), D.ref (S3.length + 1 + 1)]]) := (F'.trans F3).app.app.app.app
      clear q3 w3
      rw [key]
      walk_at "am"
      refine three_ok (Ls := [[0, 3], [1, 4], [2, 5]]) f_law_bases (fun _ => rfl) hS3 rfl (by simp) (by decide) (fun k e S1 he => ?_) ?_
      · have he : ∃ C, e = .exc C [] [] ∧ ExcC C ∧ [[0, 3], [1, 4], [2, 5]][k]? = some (selB 0 (has C basesL)) := by
          match k, he with
          | 0, h => cases h; exact ⟨_, rfl, fit_BadValue, by decide +kernel⟩
          | 1, h => cases h; exact ⟨_, rfl, fit_BadName, by decide +kernel⟩
          | 2, h => cases h; exact ⟨_, rfl, fit_NoAnswer, by decide +kernel⟩
          | n + 3, h => simp at h
        obtain ⟨C, rfl, hC, hk⟩ := he
        refine EW_of (bases_ok hC) ?_
        rintro _ S5 ⟨r, rfl, h0, F5, h5⟩
        exact ⟨r, _, rfl, h0, F5, hk, h5⟩
      · intro S6 zs F6 w6 hl6 q6
        walk_at "am"
        have key := eqD_lls (S := S6 ++ [MO.lst [.int 0, .int 3]] ++ [MO.lst [.int 1, .int 4]] ++ [MO.lst [.int 2, .int 5]] ++ [MO.lst [D.ref S6.length, D.ref (S6.length + 1), D.ref (S6.length + 1 + 1)]]) (i := S3.length + 1 + 1 + 1 + 1) (j := S6.length + 1 + 1 + 1) (L := [[0, 3], [1, 4], [2, 5]]) (ds := zs)
          (lst_keep (lst_keep (lst_keep (lst_keep (lst_of_w w6))))) (lst_nw (by simp)) hl6 rfl
          (fun k d hk => by
            obtain ⟨r, ns, e1, e2, e3⟩ := q6 k d hk
            exact ⟨r, ns, e1, e2, lst_keep (lst_keep (lst_keep (lst_keep e3)))⟩)
          (fun k d hk => by
            match k, hk with
            | 0, h => cases h; exact ⟨_, [0, 3], rfl, rfl, by walk_at "am"⟩
            | 1, h => cases h; exact ⟨_, [1, 4], rfl, rfl, by walk_at "am"⟩
            | 2, h => cases h; exact ⟨_, [2, 5], rfl, rfl, by walk_at "am"⟩
            | n + 3, h => simp at h)
        rw [key]
        walk_at "am"
        exact (Fr.app'.trans (F4.trans F6)).app.app.app.app
theorem reprOk_of {p : PyData} (h1 : p.showable = true) (h2 : p.hasDict = false) (h3 : p.depth ≤ 60) (h4 : p.shown.length ≤ 16777216) : reprOk p = true := by
  unfold reprOk
  rw [h1, h2, decide_eq_true h3, decide_eq_true (show p.shown.length ≤ lim from h4)]
  rfl
theorem log_big {i : Int} (h : i.natAbs < 10000000000000000000000000000000) : i.natAbs.log2 < 1920 := by
  have := log2_lt (k := 199) (n := i.natAbs) (Nat.lt_trans h (by decide))
  omega
theorem len_int {i : Int} (h : i.natAbs < 10000000000000000000000000000000) : ((toString i : String) : Str).length ≤ 1921 := PyProof.Rows.int_text_len_1921 (log_big h)
theorem len_repr {x : Str} (h : PyData.strOk x = true) : (reprText x).length ≤ 10 * x.length + 2 := StrLaws.reprText_len x fun c hc => by
  unfold PyData.strOk at h
  have := Array.all_eq_true'.mp h c (by simpa using hc)
  have : c < 1114112 := by simpa using this
  omega
theorem lst_none {S : Sto} {i : Nat} {kvs : List (D × D)} (h : dicAt S i = some kvs) : lstAt S i = none := by
  unfold dicAt at h
  unfold lstAt
  split at h <;> simp_all
theorem nice_of {S : Sto} {d : D} {p : PyData} (h : pd 60 S d = some p) (h0 : p.canLay0 = true) (h1 : p.showable = true) (h2 : p.hasDict = false) (h3 : p.depth ≤ 60) (h4 : p.shown.length ≤ 16777216) : Nice S d :=
  .inl ⟨p, h, reprOk_of h1 h2 h3 h4, by unfold okd SeqAt.shaped; rw [h0, decide_eq_true (show p.depth ≤ 64 by omega)]; rfl⟩
theorem things_nice {A : Sto} {r : Int} {x : Str} {k1 k2 k3 k4 k5 : Nat} (l1 : lstAt A k1 = some []) (l2 : lstAt A k2 = some [.int r]) (l3 : lstAt A k3 = some [.str x, .ref k2]) (d4 : dicAt A k4 = some []) (d5 : dicAt A k5 = some [(.str x, .int r)])
    (hr : r.natAbs < 10000000000000000000000000000000) (hx : x.length ≤ 10) (hs : PyData.strOk x = true) :
    ∀ d ∈ [D.non, D.bl true, D.bl false, D.int 0, D.int r, D.int 1000000000000000000000000000000, D.str "", D.str x, D.tup [], D.tup [D.int r, D.str x], .ref k1, .ref k3, .ref k4, .ref k5], Nice A d := by
  have hl := log_big hr
  have hi := len_int hr
  have hx' := len_repr hs
  intro d hd
  simp only [List.mem_cons, List.not_mem_nil, or_false] at hd
  rcases hd with rfl | rfl | rfl | rfl | rfl | rfl | rfl | rfl | rfl | rfl | rfl | rfl | rfl | rfl
  · exact nice_of (p := .none) rfl rfl rfl rfl (by decide) (by decide +kernel)
  · exact nice_of (p := .bool true) rfl rfl rfl rfl (by decide) (by decide +kernel)
  · exact nice_of (p := .bool false) rfl rfl rfl rfl (by decide) (by decide +kernel)
  · exact nice_of (p := .int 0) rfl rfl (by decide +kernel) rfl (by decide) (by decide +kernel)
  · exact nice_of (p := .int r) rfl rfl (by simp [PyData.showable, hl]) rfl (by simp [PyData.depth]) (by simp only [PyData.shown]; omega)
  · exact nice_of (p := .int 1000000000000000000000000000000) rfl rfl (by decide +kernel) rfl (by decide) (by decide +kernel)
  · exact nice_of (p := .str "") rfl (by decide +kernel) rfl rfl (by decide) (by decide +kernel)
  · exact nice_of (p := .str x) rfl (by simp [PyData.canLay0, hs]) rfl rfl (by simp [PyData.depth]) (by simp only [PyData.shown]; omega)
  · exact nice_of (p := .tuple []) rfl (by decide +kernel) (by decide +kernel) (by decide +kernel) (by decide +kernel) (by decide +kernel)
  · have := tupleText_len_le [((toString r : String) : Str), reprText x]
    simp only [List.map_cons, List.map_nil, List.sum_cons, List.sum_nil, List.length_cons, List.length_nil] at this
    exact nice_of (p := .tuple [.int r, .str x]) rfl (by simp [PyData.canLay0, PyData.canLayAll0, hs]) (by simp [PyData.showable, PyData.showableAll, hl]) (by simp [PyData.hasDict, PyData.hasDictAll]) (by simp [PyData.depth, PyData.depthAll]) (by simp only [PyData.shown, PyData.shownAll]; omega)
  · exact nice_of (p := .list []) (by unfold pd; rw [l1]; rfl) (by decide +kernel) (by decide +kernel) (by decide +kernel) (by decide +kernel) (by decide +kernel)
  · have h2 := listText_len_le [((toString r : String) : Str)]
    have h1 := listText_len_le [reprText x, listText [((toString r : String) : Str)]]
    simp only [List.map_cons, List.map_nil, List.sum_cons, List.sum_nil, List.length_cons, List.length_nil] at h1 h2
    refine nice_of (p := .list [.str x, .list [.int r]]) ?_ (by simp [PyData.canLay0, PyData.canLayAll0, hs]) (by simp [PyData.showable, PyData.showableAll, hl]) (by simp [PyData.hasDict, PyData.hasDictAll]) (by simp [PyData.depth, PyData.depthAll]) (by simp only [PyData.shown, PyData.shownAll]; omega)
    unfold pd
    rw [l3]
    dsimp only
    rw [List.mapM_cons, List.mapM_cons, pd_lints (ns := [r]) l2]
    rfl
  · exact .inr ⟨k4, [], [], rfl, d4, lst_none d4, rfl, by simp, by decide +kernel, by decide +kernel, by decide +kernel⟩
  · have h1 := dictText_len_le [reprText x ++ ": " ++ ((toString r : String) : Str)]
    have e : (": " : Str).length = 2 := by decide +kernel
    simp only [List.map_cons, List.map_nil, List.sum_cons, List.sum_nil, List.length_cons, List.length_nil, strLen_append, e] at h1
    exact .inr ⟨k5, [(.str x, .int r)], [(.str x, .int r)], rfl, d5, lst_none d5, rfl, by simp, by simp [PyData.showable, PyData.showableKv, hl], by simp [PyData.depth, PyData.depthKv], by simp only [PyData.shown, PyData.shownKv, lim]; omega⟩
theorem things_ok {fu n : Nat} {S : Sto} {p : Nat} (hp : PoolAt S p 10) : EW (run T fu (n + 3) "_law_things" [.ref p] S) (fun r S1 => ∃ k ds, r = .ref k ∧ Fr (some p) S S1 ∧ lstAt S1 k = some ds ∧ ds.length = 14 ∧ ∀ d ∈ ds, Nice S1 d) fun _ _ => False := by
  refine run_W f_law_things rfl ?_
  unfold b_law_things
  walk_at "am"
  refine ⟨by decide, ?_⟩
  refine EW_of (draw_ok hp (by decide) (by decide) (by decide)) ?_
  rintro _ S1 ⟨r, rfl, h0, h1, F1, P1⟩
  walk_at "am"
  refine EW_of (word_ok P1 (by decide)) ?_
  rintro _ S2 ⟨x, rfl, hx, hx2, F2, P2⟩
  walk_at "am"
  refine ⟨by decide, _, _, rfl, (F1.trans F2).app.app.app.app.app.app.app.app, lst_nw (by simp), rfl, ?_⟩
  refine things_nice (k2 := S2.length + 1 + 1) ?_ ?_ ?_ ?_ ?_ (by omega) hx hx2
  all_goals walk_at "am"
end K01
set_option maxHeartbeats 4000000
namespace K01
open PySem Am
theorem g_LEAST_BLOCKS : T.con.lookup ("LEAST_BLOCKS" : Str) = some (D.int 3) := rfl
theorem g_MOST_BLOCKS : T.con.lookup ("MOST_BLOCKS" : Str) = some (D.int 6) := rfl
theorem g_LEAST_PAGES : T.con.lookup ("LEAST_PAGES" : Str) = some (D.int 2) := rfl
theorem g_MOST_PAGES : T.con.lookup ("MOST_PAGES" : Str) = some (D.int 5) := rfl
theorem g_MOST_ROWS : T.con.lookup ("MOST_ROWS" : Str) = some (D.int 4) := rfl
theorem g_MOST_PRICE : T.con.lookup ("MOST_PRICE" : Str) = some (D.int 9) := rfl
theorem g_MOST_EVENTS : T.con.lookup ("MOST_EVENTS" : Str) = some (D.int 2000) := rfl
theorem g_MOST_WRITES : T.con.lookup ("MOST_WRITES" : Str) = some (D.int 500) := rfl
theorem g_MOST_STANDS : T.con.lookup ("MOST_STANDS" : Str) = some (D.int 2000) := rfl
theorem g_MOST_JOINT : T.con.lookup ("MOST_JOINT" : Str) = some (D.int 4000) := rfl
theorem g_MOST_PICKED : T.con.lookup ("MOST_PICKED" : Str) = some (D.int 1000) := rfl
local macro_rules | `(tactic| walk_at "am") => `(tactic| simp (disch := first | assumption | omega | (simp only [List.length_append, List.length_cons, List.length_nil, List.length_set]; done) | (simp only [List.length_append, List.length_cons, List.length_nil, List.length_set]; omega) | decide +kernel) only [Z_nil, Z_cons, Z_exp, Z_set, Z_unpack, Z_setat, Z_setix, Z_ret, Z_retN, Z_raise, Z_brk, Z_cont, Z_pass, Z_ite, Z_for, Z_whl,
  setTg_1, setTg_2, setTg_3, W_var, W_con, W_glob, W_bin, W_neg, W_cmp, W_chain, W_and, W_or, W_not, W_ite, W_tup, W_lst, W_dic0, W_dic1, W_ix, W_sl, W_call, W_blt, W_mk, MkW_l, m_BadValue, m_InvalidBlocks, m_InvalidPages, m_InvalidNames, m_InvalidPrice, m_InvalidNumber, m_InvalidFlag, m_InvalidDrift, m_InvalidText, m_InvalidName, m_InvalidIndex, m_InvalidClaim, m_NotADrive, m_InvalidRows, m_InvalidLoad, m_BadName, m_UnknownName, m_InUse, m_NoAnswer, m_OtherNames, m_Sticks, m_TooMany, m_NothingToUndo, m_NotAsked, m_Broken, bw_given, bw_index, bw_limit, bw_b1, bw_b2, bw_b3, W_isi, W_comp, W_attr, W_nil, W_cons, W_T0, W_T1, W_no, W_so, W_seq, W_rng1, W_rng2,
  f_law_cell, f_law_pool, f_law_draw, f_law_word, f_law_things, f_law_sorts, f_law_bases, f_law_fits, f_law_same, f_law_near, f_law_far, f_law_counted, f_law_one_right, f_law_bare_right, f_law, g_LEAST_BLOCKS, g_MOST_BLOCKS, g_LEAST_PAGES, g_MOST_PAGES, g_MOST_ROWS, g_MOST_PRICE, g_MOST_EVENTS, g_MOST_WRITES, g_MOST_STANDS, g_MOST_JOINT, g_MOST_PICKED, OW_some, OW_none, OW_map, VW_some, IteW_t, IteW_f, IteW_d, IteW_n, EW_ok,
  B_add, B_sub, B_mul, B_fdiv, B_mod, B_pow, B_addS, B_addT, B_addL, c_lt, c_le, c_gt, c_ge, c_eqD, c_neD, eqD_int, eqD_str,  le_lim, mulOk_by, log_by', rngOk_by, forall_const, and_true, and_self, Int.reduceLT, Int.reduceLE, Nat.reduceLT, Nat.reduceLeDiff, Int.reducePow, Int.reduceToNat, Int.reduceNeg, not_true_eq_false, not_false_eq_true, false_implies, true_implies, reduceIte,  t_non, t_bl, t_int, t_tup,
  b_len, len_ref, len_tup, len_str, b_int, b_intb, b_abs, b_max2, b_min2, b_tupT, b_tupL, b_all, b_any, b_sum, ix_tup, ix_ref, sl_tup, sl_ref, setix_ref, set_nw, keyD, lst_nw, wlst_nw, lst_app, wlst_app, dic_nw, dic_app, SeqW_ref, SeqW_tup, Itv.size, wipeL, Option.isSome_some, Option.getD_some, List.length_map, true_and, lst_set, wlst_set, atI_0, atI_1, atI_2, ixN_30, ixN_31, ixN_32, bind_0, bind_1, bind_2,
  startL, List.map_cons, List.map_nil, List.length_cons, List.length_nil, List.length_append, List.length_set, List.replicate_succ, List.replicate_zero, List.cons_append, List.nil_append, List.append_nil, Nat.reduceSub, Nat.reduceAdd,
  List.set_cons_succ, List.set_cons_zero, List.getElem?_cons_succ, List.getElem?_cons_zero, Option.bind_some, Option.map_some, List.set_set, *])
theorem repr_ints {S : Sto} {k : Nat} {ns : List Int} {Q : D → Sto → Prop} {E : D → Sto → Prop} (h : lstAt S k = some (ns.map D.int)) (ok : reprOk (.list (ns.map .int)) = true) : EW (bltD .repr S [.ref k]) Q E = Q (.str (PyData.list (ns.map .int)).shown) S := by
  rw [b_repr (pd_lints h)]
  simp [ok]
theorem repr_ints' {S : Sto} {k : Nat} {ns : List Int} {Q : D → Sto → Prop} {E : D → Sto → Prop} (h : lstAt S k = some (ns.map D.int)) (ok : reprOk (.list (ns.map .int)) = true) (q : Q (.str (PyData.list (ns.map .int)).shown) S) : EW (bltD .repr S [.ref k]) Q E := by
  rw [repr_ints h ok]
  exact q
theorem EW_T0' {T : Tab} {R : Str → List D → Sto → Out D} {L : Am.Loc} {S : Sto} {Q : Sto → Prop} (h : Q S) : EW (evT T R .nil L S) (fun b S1 => b = true ∧ S1 = S ∧ Q S) fun _ _ => False := by
  rw [W_T0]
  exact ⟨rfl, rfl, h⟩
theorem atI_any {xs : List D} {i : Int} (h0 : -(xs.length : Int) ≤ i) (h1 : i < xs.length) : ∃ d, atI xs i = some d ∧ d ∈ xs := by
  show ∃ d, L2.atI xs i = some d ∧ d ∈ xs
  unfold L2.atI L2.ixN
  by_cases z : 0 ≤ i
  · rw [if_pos z, if_pos h1]
    have hk : i.toNat < xs.length := by omega
    exact ⟨xs[i.toNat], by simp [hk], List.getElem_mem hk⟩
  · rw [if_neg z, if_pos h0]
    have hk : (i + xs.length).toNat < xs.length := by omega
    exact ⟨xs[(i + xs.length).toNat], by simp [hk], List.getElem_mem hk⟩
theorem blsOf_true : ∀ {ys : List D}, (∀ y ∈ ys, y = .bl true) → ∃ bs, blsOf ys = some bs ∧ bs.all id = true
  | [], _ => ⟨[], rfl, rfl⟩
  | y :: ys, h => by
    obtain ⟨bs, e, q⟩ := blsOf_true (ys := ys) fun z hz => h z (by simp [hz])
    have := h y (by simp)
    subst this
    exact ⟨true :: bs, by unfold blsOf; rw [e]; rfl, by simp [q]⟩
theorem law_ok' {fu n : Nat} {ns : List Int} {S : Sto} (hS : lstAt S 0 = some (ns.map D.int)) (hl : ns.length ≤ 63) : EW (run T fu (n + 5) "law" [.ref 0] S) (fun r _ => r = .bl true) fun _ _ => False := by
  refine run_W f_law ?_ ?_
  · rfl
  unfold blaw
  walk_at "am"
  refine repr_ints' (ns := [3, 6, 2, 5, 4, 9, 2000, 500, 2000, 4000, 1000]) (lst_nw (by simp)) (by decide +kernel) ?_
  have e : (PyData.list (([3, 6, 2, 5, 4, 9, 2000, 500, 2000, 4000, 1000] : List Int).map .int)).shown = ("[3, 6, 2, 5, 4, 9, 2000, 500, 2000, 4000, 1000]" : Str) := by decide +kernel
  rw [e]
  walk_at "am"
  refine EW_of bare_right_ok ?_
  rintro _ S1 ⟨rfl, F1⟩
  have h1 := F1.lst (lst_keep (lst_keep (lst_keep hS))) (by simp)
  walk_at "am"
  refine for_fix (fun j L S' => (∃ o1 o2 o3 o4 o5, L = [some (.ref 0), o1, o2, o3, o4, o5]) ∧ lstAt S' 0 = some (ns.map D.int)) ⟨⟨_, _, _, _, _, rfl⟩, h1⟩ ?_ ?_ (by simp)
  · rintro j d L S2 hd ⟨⟨o1, o2, o3, o4, o5, rfl⟩, h2⟩
    obtain ⟨rfl, hj⟩ := rngD_at hd
    have hj3 : (j : Int) < 1000 := by
      split at hj <;> (try split at hj) <;> omega
    rw [setTg_1, OW_some]
    walk_at "am"
    refine EW_of (cell_ok h2 ⟨by omega, hj3⟩) ?_
    rintro _ _ ⟨c, X, rfl, rfl⟩
    walk_at "am"
    refine EW_of pool_ok ?_
    rintro _ _ ⟨v, rfl, rfl, P⟩
    walk_at "am"
    rw [List.length_append] at P
    refine EW_of (things_ok (P.le (k' := 10) (by decide))) ?_
    rintro _ S3 ⟨k, ds, rfl, F3, h3, hl3, hn⟩
    have h0 : lstAt S3 0 = some (ns.map D.int) := F3.lst (lst_keep (lst_keep h2)) (by
      have := lt_of_lst h2
      intro z
      have := Option.some.inj z
      omega)
    walk_at "am"
    refine comp_rel (ds := rngD 0 ((14 : Nat) : Int)) (fun _ y _ => y = .bl true) rfl (fun _ _ _ => rfl) (fun _ _ _ _ h _ _ => h) ?_ (by decide) (by simp) ?_
    · intro i d S4 hd F4 hq
      obtain ⟨rfl, hi⟩ := rngD_at hd
      have h4 := F4.lst h3 (by simp)
      obtain ⟨d1, e1, m1⟩ := atI_any (xs := ds) (i := (i : Int)) (by omega) (by omega)
      obtain ⟨d2, e2, m2⟩ := atI_any (xs := ds) (i := (i : Int) - 1) (by omega) (by omega)
      walk_at "am"
      refine EW_of (one_right_ok ((hn _ m1).fr F4) ((hn _ m2).fr F4)) ?_
      rintro _ S5 ⟨rfl, F5⟩
      exact ⟨F5, rfl⟩
    · intro S4 ys F4 h5 w4 hl4 q4
      obtain ⟨bs, e1, e2⟩ := blsOf_true (ys := ys) fun y hy => by
        obtain ⟨k, hk⟩ := List.mem_iff_getElem?.mp hy
        exact q4 k y hk
      have w4' := lst_of_w w4
      walk_at "am"
      exact ⟨⟨_, _, _, _, _, rfl⟩, F4.lst h0 (by simp)⟩
  · rintro L S2 ⟨⟨o1, o2, o3, o4, o5, rfl⟩, h2⟩
    walk_at "am"
theorem plain {fu n : Nat} {ns : List Int} {S : Sto} (hS : lstAt S 0 = some (ns.map D.int)) (hl : ns.length ≤ 63) : ∃ S', Am.run T fu (n + 5) "law" [.ref 0] S = .ok (.bl true) S' := by
  obtain ⟨d, S', e, h⟩ := EW_ex (law_ok' (fu := fu) (n := n) hS hl)
  subst h
  exact ⟨S', e⟩
end K01
set_option maxHeartbeats 0
/-! K01Z: law_k01 from its plain law. -/
namespace K01
open PySem PySem.Spec PyProof.Rows L2 Am
/-- what is left to be shown, in plain Lean -/
def Plain (fu m : Nat) : Prop := ∀ ns : List Int, ns.length ≤ 63 → ∃ S', Am.run T fu m "law" [.ref 0] [.ro (ns.map Am.D.int)] = .ok (.bl true) S'
end K01
open PySem PySem.W PySem.Calls PyProof.Rows
theorem k01_of {fu : Nat} (pl : K01.Plain fu 20) : PySem.Challenge.rw_spareblocks_k01_limits_and_errors.Holds := by
  w_on; o_law
  refine HandSHeadRun.head_any (r := OpenLaw.row PySem.Challenge.rw_spareblocks_k01_limits_and_errors) (q := view (OpenLaw.row PySem.Challenge.rw_spareblocks_k01_limits_and_errors).prog [52]) (H := K01.hk) (ob := K01.ob) (M := 8000) (loose := K01.loose) (d := HandSHeadRun.topDef (OpenLaw.row PySem.Challenge.rw_spareblocks_k01_limits_and_errors).prog 52) (kwd := []) K01.ob_eq
    (by kernel_rfl) (fun s => by kernel_rfl) K01.run_eq (by kernel_rfl) (by kernel_rfl) (by kernel_rfl) (by rfl) (by first | assumption | decide +kernel) (by decide +kernel) ⟨rfl, rfl, rfl, rfl, rfl, by decide +kernel⟩ ?hw ?hc
  case hw => w_witness2
  case hc =>
    refine Am.walk_ofF (k := 0) (l := PySem.Challenge.rw_spareblocks_k01_limits_and_errors) (n := 63) (x := "_law_cells") (law := "law") (T := K01.T) (fu := fu) (m := 20) rfl (by decide) (by kernel_rfl) ⟨⟨rfl, by decide, by decide⟩, rfl⟩ pl ?F
    intro w mg fa h Y G hmg0
    obtain ⟨K, KX, c⟩ := Y
    have hmg : mg ("law" : PySem.Str) = some (.ref fa) := by
      have e : (HandSHeadRun.topDef (OpenLaw.row PySem.Challenge.rw_spareblocks_k01_limits_and_errors).prog 52).name = ("law" : PySem.Str) := by kernel_rfl
      rw [← e]
      exact hmg0
    have F := K01.sf KX G c
    have hfa : Am.FAof K K01.paths "law" = some (He.ga K "law") := rfl
    have hg := (F.glo "law" (He.ga K "law") hfa (by decide +kernel)).1
    rw [hmg] at hg
    cases hg
    exact ⟨K, Am.CAof K K01.T, KX, (He.ba c.1).1, fun base _ _ => Am.law_fn F (d := (K01.fnT.getD 14 ("", ⟨[], [], 0, .nil⟩)).2) (by kernel_rfl) (by kernel_rfl) (by kernel_rfl) hfa⟩
theorem PySem.Challenge.cw_spareblocks_k01_limits_and_errors_holds : PySem.Challenge.rw_spareblocks_k01_limits_and_errors.Holds := by
  exact k01_of (fu := 1) fun ns hl => K01.plain (n := 15) rfl hl
