import PyProof.Rows.All
import Wide.All
import OpenK.AllK
import Wide.FinOn
import HandS.ForMost
import HandS.StrMore
import HandS.ForExc
import HandS.Deep
import HandS.TupAny
import HandS.Lambda
import HandS.Flow
import HandS.TupLe
import HandS.IsInst
import HandS.CallSlots
import HandS.WordsExc
import HandS.HeadEnd
import HandS.RaiseMore
import HandS.Conv
import HandS.TupLen
import HandS.More
import HandS.ReCall
import HandS.ExcIs
import HandS.ExcField
import KE.KExcIs
import HandS.Walk
import HandS.Small
import KE.GoesZip
import KE.GoesMore
import HandS.Style
import HandS.Exc
import HandS.ExcValue
import HandS.ExcInit
import HandS.ExcOwn
import HandS.Defaults
import HandS.HeadHook2
import HandS.MakeKw
import HandS.TryOnly
import HandS.HeadHook4
import HandS.Head2
import HandS.NestedK
import HandS.Text
import PySem.Challenge.RW_modcore_k13_errors
set_option Elab.async false
set_option linter.all false
set_option maxRecDepth 100000
set_option maxHeartbeats 0
section
/-! V0: a small language of expressions and statements, and its evaluator. -/
namespace Vm
open PySem

/-- values: pure data; a cell of the store; a tuple or a list that holds a value that is not pure; an exception -/
inductive Val where
  | p (d : PyData)
  | r (k : Nat)
  | t (xs : List Val)
  | l (xs : List Val)
  | x (c : Nat) (fs : List (Str × PyData))
  deriving Inhabited

inductive Cell where
  | pl (ds : List PyData)
  | ml (vs : List Val)
  | pd (kvs : List (PyData × PyData))
  | md (kvs : List (PyData × Val))
  | ob (c : Nat) (fs : List (Str × Val))
  | fz (d : PyData)
  | lk (c : Cell)
  deriving Inhabited

abbrev Store := List Cell
abbrev Env := List (Option Val)

inductive R (α : Type) where
  | ok (a : α) (st : Store)
  | er (c : Nat) (fs : List (Str × PyData)) (st : Store)
  | no
def R.bind {α β : Type} (r : R α) (f : α → Store → R β) : R β :=
  match r with
  | .ok a st => f a st
  | .er c fs st => .er c fs st
  | .no => .no
@[simp] theorem R.bind_ok {α β : Type} (a : α) (st : Store) (f : α → Store → R β) : (R.ok a st).bind f = f a st := rfl
@[simp] theorem R.bind_er {α β : Type} (c : Nat) (fs : List (Str × PyData)) (st : Store) (f : α → Store → R β) : (R.er c fs st : R α).bind f = .er c fs st := rfl
@[simp] theorem R.bind_no {α β : Type} (f : α → Store → R β) : (R.no : R α).bind f = .no := rfl
def R.of {α : Type} (o : Option α) (st : Store) : R α :=
  match o with
  | some a => .ok a st
  | none => .no
@[simp] theorem R.of_some {α : Type} (a : α) (st : Store) : R.of (some a) st = .ok a st := rfl
@[simp] theorem R.of_none {α : Type} (st : Store) : (R.of none st : R α) = .no := rfl

/-! ### values -/
def unP : Val → Option PyData
  | .p d => some d
  | _ => none
def unPs : List Val → Option (List PyData)
  | [] => some []
  | v :: vs =>
    match unP v with
    | some d =>
      match unPs vs with
      | some ds => some (d :: ds)
      | none => none
    | none => none
@[simp] theorem unPs_map : ∀ ds : List PyData, unPs (ds.map Val.p) = some ds
  | [] => rfl
  | d :: ds => by simp [unPs, unP, unPs_map ds]
def mkT (vs : List Val) : Val :=
  match unPs vs with
  | some ds => .p (.tuple ds)
  | none => .t vs
def mkL (vs : List Val) : Val :=
  match unPs vs with
  | some ds => .p (.list ds)
  | none => .l vs
@[simp] theorem mkT_map (ds : List PyData) : mkT (ds.map Val.p) = .p (.tuple ds) := by simp [mkT]
@[simp] theorem mkL_map (ds : List PyData) : mkL (ds.map Val.p) = .p (.list ds) := by simp [mkL]
/-- a pure cell read as data -/
def seeC : Cell → Option PyData
  | .pl ds => some (.list ds)
  | .pd kvs => some (.dict kvs)
  | .fz d => some d
  | .lk c => seeC c
  | _ => none
def see (st : Store) : Val → Val
  | .r k =>
    match st[k]? with
    | some c =>
      match seeC c with
      | some d => .p d
      | none => .r k
    | none => .r k
  | v => v
@[simp] theorem see_p (st : Store) (d : PyData) : see st (.p d) = .p d := rfl
def charsOf (s : Str) : List PyData := s.cps.toList.map fun c => .str ⟨#[c]⟩
def itemsD : PyData → Option (List PyData)
  | .list ds => some ds
  | .tuple ds => some ds
  | .str s => some (charsOf s)
  | .dict kvs => some (kvs.map (·.1))
  | _ => none
def itemsC : Cell → Option (List Val)
  | .pl ds => some (ds.map .p)
  | .ml vs => some vs
  | .pd kvs => some (kvs.map fun q => .p q.1)
  | .md kvs => some (kvs.map fun q => .p q.1)
  | .fz d => (itemsD d).map (·.map .p)
  | .lk c => itemsC c
  | .ob _ _ => none
def itemsV (st : Store) : Val → Option (List Val)
  | .p d => (itemsD d).map (·.map .p)
  | .t vs => some vs
  | .l vs => some vs
  | .r k =>
    match st[k]? with
    | some c => itemsC c
    | none => none
  | _ => none

/-! ### operators on data -/
def SZ : Nat := 16777216
inductive BinO where
  | add | sub | mul | fdiv | mod | pow
  deriving DecidableEq
inductive CmpO where
  | eq | ne | lt | le | gt | ge | is | isNot | isin | notin
  deriving DecidableEq
def binD : BinO → PyData → PyData → Option PyData
  | .add, .int i, .int j => some (.int (i + j))
  | .add, .str a, .str b => if a.length + b.length ≤ SZ then some (.str (a ++ b)) else none
  | .add, .list a, .list b => if a.length + b.length ≤ SZ then some (.list (a ++ b)) else none
  | .add, .tuple a, .tuple b => if a.length + b.length ≤ SZ then some (.tuple (a ++ b)) else none
  | .sub, .int i, .int j => some (.int (i - j))
  | .mul, .int i, .int j => if (-(2 ^ 64) < i ∧ i < 2 ^ 64) ∨ (-(2 ^ 64) < j ∧ j < 2 ^ 64) then some (.int (i * j)) else none
  | .mul, .list a, .int k => if -(2 ^ 63) ≤ k ∧ k < 2 ^ 63 ∧ a.length * k.toNat ≤ SZ then some (.list (List.replicate k.toNat a).flatten) else none
  | .mul, .str a, .int k => if 0 ≤ k ∧ k < 2 ^ 38 ∧ a.length * k.toNat ≤ SZ ∧ a.length < 2 ^ 24 then some (.str ⟨(List.replicate k.toNat a.cps.toList).flatten.toArray⟩) else none
  | .fdiv, .int i, .int j => if 0 < j ∧ j < 1073741824 then some (.int (i / j)) else none
  | .mod, .int i, .int j => if 0 < j then some (.int (i % j)) else none
  | .pow, .int i, .int j => if 0 ≤ j ∧ j ≤ 1000000 ∧ i.natAbs < 2 ^ 64 then some (.int (i ^ j.toNat)) else none
  | _, _, _ => none
def asL : Val → Option (List Val)
  | .p (.list ds) => some (ds.map .p)
  | .l vs => some vs
  | _ => none
def seqL (st : Store) (a : Val) : Option (List Val) :=
  match see st a with
  | .p (.list ds) => some (ds.map .p)
  | .l vs => some vs
  | .r k =>
    match st[k]? with
    | some (.ml vs) => some vs
    | _ => none
  | _ => none
def binV (o : BinO) (a b : Val) : Option Val :=
  match a, b with
  | .p x, .p y => (binD o x y).map .p
  | a, b =>
    match o, asL a, asL b with
    | .add, some xs, some ys => if xs.length + ys.length ≤ SZ then some (mkL (xs ++ ys)) else none
    | _, _, _ => none
def ltS (a b : Str) : Bool := decide (a.cps.toList < b.cps.toList)
/-- plain values that == tells apart by their looks -/
def flat2 : PyData → PyData → Bool
  | .none, .none => true
  | .none, .int _ => true
  | .int _, .none => true
  | .none, .bool _ => true
  | .bool _, .none => true
  | .none, .str _ => true
  | .str _, .none => true
  | .int _, .int _ => true
  | .bool _, .bool _ => true
  | .str _, .str _ => true
  | .int _, .str _ => true
  | .str _, .int _ => true
  | .bool _, .str _ => true
  | .str _, .bool _ => true
  | _, _ => false
def flatD : PyData → Bool
  | .none => true
  | .bool _ => true
  | .int _ => true
  | .str _ => true
  | _ => false
def eqD (x y : PyData) : Option Bool := if flat2 x y = true then some (PyData.eqv x y) else if SeqAt.shaped x = true ∧ SeqAt.shaped y = true then some (PyData.eqv x y) else
  match x, y with
  | .tuple [], .tuple (_ :: _) => some false
  | .tuple (_ :: _), .tuple [] => some false
  | .list [], .list (_ :: _) => some false
  | .list (_ :: _), .list [] => some false
  | _, _ => none
def isKey1 : PyData → Bool
  | .int _ => true
  | .str _ => true
  | _ => false
/-- keys of dicts: ints and texts, or tuples of these -/
def keyed : PyData → Bool
  | .tuple ds => ds.all isKey1
  | d => isKey1 d
def kindOK {α : Type} (kvs : List (PyData × α)) (x : PyData) : Bool :=
  match kvs with
  | [] => true
  | q :: _ => isKey1 q.1 == isKey1 x
def inD (x : PyData) : PyData → Option Bool
  | .str b => match x with
    | .str a => some (!(Builtin.Str.occurrences b a 0 b.length 1).isEmpty)
    | _ => none
  | .list ds => if (flatD x = true ∧ ds.all flatD = true) ∨ (SeqAt.shaped x = true ∧ SeqAt.shaped (.list ds) = true) then some (ds.any fun z => PyData.eqv z x) else none
  | .tuple ds => if flatD x = true ∧ ds.all flatD = true then some (ds.any fun z => PyData.eqv z x) else if SeqAt.shaped x = true ∧ SeqAt.shaped (.tuple ds) = true then some (ds.any fun z => PyData.eqv z x) else none
  | .dict kvs => if keyed x = true ∧ kindOK kvs x = true then some (kvs.any fun q => PyData.eqv q.1 x) else none
  | _ => none
def cmpD (o : CmpO) (x y : PyData) : Option Bool :=
  match o with
  | .eq => eqD x y
  | .ne => (eqD x y).map (!·)
  | .lt => match x, y with
    | .int i, .int j => some (decide (i < j))
    | .str a, .str b => some (ltS a b)
    | _, _ => none
  | .le => match x, y with
    | .int i, .int j => some (decide (i ≤ j))
    | .str a, .str b => some (!ltS b a)
    | _, _ => none
  | .gt => match x, y with
    | .int i, .int j => some (decide (j < i))
    | .str a, .str b => some (ltS b a)
    | _, _ => none
  | .ge => match x, y with
    | .int i, .int j => some (decide (j ≤ i))
    | .str a, .str b => some (!ltS a b)
    | _, _ => none
  | .is => match y with
    | .none => some (match x with | .none => true | _ => false)
    | _ => none
  | .isNot => match y with
    | .none => some (match x with | .none => false | _ => true)
    | _ => none
  | .isin => inD x y
  | .notin => (inD x y).map (!·)
def cmpV (o : CmpO) (a b : Val) : Option Bool :=
  match a, b with
  | .p x, .p y => cmpD o x y
  | _, .p .none => match o with
    | .is => some false
    | .isNot => some true
    | _ => none
  | _, _ => none
def truthD : PyData → Bool
  | .none => false
  | .bool b => b
  | .int i => i != 0
  | .str s => s.length != 0
  | .list ds => !ds.isEmpty
  | .tuple ds => !ds.isEmpty
  | .dict kvs => !kvs.isEmpty
def truthV : Val → Option Bool
  | .p (.str s) => if s.length ≤ SZ then some (s.length != 0) else none
  | .p (.dict _) => none
  | .p d => some (truthD d)
  | .t vs => some (!vs.isEmpty)
  | .l vs => some (!vs.isEmpty)
  | _ => none
def atL {α : Type} (xs : List α) (i : Int) : Option α := L2.atI xs i
def keyEq (a b : PyData) : Bool := PyData.eqv a b
def getK {α : Type} (kvs : List (PyData × α)) (k : PyData) : Option α := (kvs.find? fun q => keyEq q.1 k).map (·.2)
def putK {α : Type} (kvs : List (PyData × α)) (k : PyData) (v : α) : List (PyData × α) :=
  if (kvs.any fun q => keyEq q.1 k) = true then kvs.map (fun q => if keyEq q.1 k = true then (q.1, v) else q) else kvs ++ [(k, v)]
def dropK {α : Type} (kvs : List (PyData × α)) (k : PyData) : List (PyData × α) := kvs.filter fun q => !keyEq q.1 k
def idxD (x i : PyData) : Option PyData :=
  match x, i with
  | .list ds, .int i => atL ds i
  | .tuple ds, .int i => atL ds i
  | .str s, .int i => if s.length ≤ SZ then (atL s.cps.toList i).map fun c => .str ⟨#[c]⟩ else none
  | .dict kvs, k => if keyed k = true ∧ kindOK kvs k = true then getK kvs k else none
  | _, _ => none
def idxV (st : Store) (a i : Val) : Option Val :=
  match see st a, i with
  | .p x, .p i => (idxD x i).map .p
  | .t vs, .p (.int i) => atL vs i
  | .l vs, .p (.int i) => atL vs i
  | .r k, .p i =>
    match st[k]? with
    | some (.ml vs) => match i with
      | .int i => atL vs i
      | _ => none
    | _ => none
  | _, _ => none
def cutL {α : Type} (xs : List α) (lo hi : Option Int) : List α := (xs.drop (HT.sIx xs.length 0 lo)).take (HT.sIx xs.length xs.length hi - HT.sIx xs.length 0 lo)
def slcD (lo hi : Option Int) : PyData → Option PyData
  | .list ds => some (.list (cutL ds lo hi))
  | .tuple ds => some (.tuple (cutL ds lo hi))
  | .str s => if s.length ≤ SZ then some (.str (L2.cutS s lo hi)) else none
  | _ => none
def slcV (st : Store) (lo hi : Option Int) (a : Val) : Option Val :=
  match see st a with
  | .p d => (slcD lo hi d).map .p
  | .t vs => some (mkT (cutL vs lo hi))
  | .l vs => some (mkL (cutL vs lo hi))
  | _ => none

/-! ### built-ins -/
inductive Ty where
  | str | int | bool | list | tuple | dict | verr
  | own (c : Nat)
  deriving DecidableEq
inductive Bi where
  | len | abs | all | any | int | str | list | tuple | min2 | max2 | sorted | repr | sum | dict | dict0
  deriving DecidableEq
inductive Mt where
  | split | join | lstrip | partition | rpartition | startswith
  | append | extend | pop | popAt | clear | insert
  | get | update | dpop | items | values
  deriving DecidableEq
def tyD : PyData → Ty → Option Bool
  | .str _, .str => some true
  | .int _, .int => some true
  | .bool _, .int => some true
  | .bool _, .bool => some true
  | .list _, .list => some true
  | .tuple _, .tuple => some true
  | .dict _, .dict => some true
  | _, .own _ => some false
  | _, _ => some false
def boolsOf : List PyData → Option (List Bool)
  | [] => some []
  | .bool b :: r => (boolsOf r).map (b :: ·)
  | _ :: _ => none
def intsOf : List PyData → Option (List Int)
  | [] => some []
  | .int b :: r => (intsOf r).map (b :: ·)
  | _ :: _ => none
def strsOf : List PyData → Option (List Str)
  | [] => some []
  | .str b :: r => (strsOf r).map (b :: ·)
  | _ :: _ => none
def insS (x : Str) : List Str → List Str
  | [] => [x]
  | y :: r => if ltS y x then y :: insS x r else x :: y :: r
def sortS (xs : List Str) : List Str := xs.foldr insS []
def biD (b : Bi) (d : PyData) : Option PyData :=
  match b, d with
  | .len, .str s => if s.length ≤ SZ then some (.int s.length) else none
  | .len, .list ds => some (.int ds.length)
  | .len, .tuple ds => some (.int ds.length)
  | .len, .dict kvs => some (.int kvs.length)
  | .abs, .int i => some (.int (if i < 0 then -i else i))
  | .all, .list ds => (boolsOf ds).map fun bs => .bool (bs.all id)
  | .any, .list ds => (boolsOf ds).map fun bs => .bool (bs.any id)
  | .int, .int i => some (.int i)
  | .int, .bool b => some (.int (if b then 1 else 0))
  | .int, .str s => if s.length ≤ 640 then (PySem.intText? s).map .int else none
  | .str, .int i => if i.natAbs.log2 < 1920 then some (.str (toString i)) else none
  | .str, .str s => some (.str s)
  | .list, .list ds => some (.list ds)
  | .list, .tuple ds => some (.list ds)
  | .list, .dict kvs => if (kvs.all fun q => isKey1 q.1) = true then some (.list (kvs.map (·.1))) else none
  | .tuple, .list ds => some (.tuple ds)
  | .tuple, .tuple ds => some (.tuple ds)
  | .sorted, .list ds => if ds.length < 64 then (strsOf ds).map fun ss => .list ((sortS ss).map .str) else none
  | .sorted, .dict kvs => if kvs.length < 64 then (strsOf (kvs.map (·.1))).map fun ss => .list ((sortS ss).map .str) else none
  | .repr, d => if d.shown.length ≤ SZ ∧ d.showable = true ∧ d.depth ≤ 64 then some (.str d.shown) else none
  | .sum, .list ds => (intsOf ds).map fun ns => .int ns.sum
  | _, _ => none
def seeM (st : Store) (v : Val) : Val :=
  match see st v with
  | .r k =>
    match st[k]? with
    | some (.ml vs) => .l vs
    | _ => .r k
  | w => w
def biV (b : Bi) (vs : List Val) (st : Store) : Option Val :=
  match vs with
  | [v] =>
    match seeM st v with
    | .p d => (biD b d).map .p
    | .l xs => match b with
      | .len => some (.p (.int xs.length))
      | .list => some (.l xs)
      | .tuple => some (.t xs)
      | _ => none
    | .t xs => match b with
      | .len => some (.p (.int xs.length))
      | .list => some (.l xs)
      | .tuple => some (.t xs)
      | _ => none
    | _ => none
  | [.p (.int i), .p (.int j)] =>
    match b with
    | .min2 => some (.p (.int (if j < i then j else i)))
    | .max2 => some (.p (.int (if j > i then j else i)))
    | _ => none
  | _ => none
def joinSz (ys : List Str) (a : Str) : Bool := decide ((ys.map (·.length)).sum + ys.length * a.length ≤ SZ)
/-- methods of texts -/
def mtS (m : Mt) (s : Str) (vs : List PyData) : Option PyData :=
  match m, vs with
  | .split, [.str b] => if (b.length == 0) = false ∧ s.length + 2 ≤ SZ then some (.list ((Txt.split s b).map .str)) else none
  | .join, [.list ds] => match strsOf ds with
    | some ys => if joinSz ys s = true then some (.str (Txt.join s ys)) else none
    | none => none
  | .join, [.tuple ds] => match strsOf ds with
    | some ys => if joinSz ys s = true then some (.str (Txt.join s ys)) else none
    | none => none
  | .lstrip, [.str b] => if s.length ≤ SZ then some (.str (Txt.lstripChars s b)) else none
  | .partition, [.str b] => if (b.length == 0) = false ∧ s.length ≤ SZ then some (.tuple [.str (Txt.partition s b).1, .str (Txt.partition s b).2.1, .str (Txt.partition s b).2.2]) else none
  | .rpartition, [.str b] => if (b.length == 0) = false ∧ s.length ≤ SZ then some (.tuple [.str (Txt.rpartition s b).1, .str (Txt.rpartition s b).2.1, .str (Txt.rpartition s b).2.2]) else none
  | .startswith, [.str b] => some (.bool (Txt.startswith s b))
  | _, _ => none
def mtP (m : Mt) (d : PyData) (vs : List PyData) : Option PyData :=
  match d with
  | .str s => mtS m s vs
  | .dict kvs => match m, vs with
    | .get, [k] => if keyed k = true ∧ kindOK kvs k = true then some ((getK kvs k).getD .none) else none
    | .get, [k, x] => if keyed k = true ∧ kindOK kvs k = true then some ((getK kvs k).getD x) else none
    | _, _ => none
  | _ => none
/-- methods that change a cell; ws, the arguments as they are read -/
def mtC (m : Mt) (c : Cell) (vs ws : List Val) : Option (Val × Cell) :=
  match m with
  | .append => match c, vs with
    | .pl ds, [.p d] => if ds.length < SZ then some (.p .none, .pl (ds ++ [d])) else none
    | .ml xs, [v] => if xs.length < SZ then some (.p .none, .ml (xs ++ [v])) else none
    | _, _ => none
  | .extend => match c, ws with
    | .pl ds, [.p (.list es)] => if ds.length + es.length ≤ SZ then some (.p .none, .pl (ds ++ es)) else none
    | _, _ => none
  | .pop => match c, vs with
    | .pl ds, [] => (ds[ds.length - 1]?).map fun d => (.p d, .pl ds.dropLast)
    | .ml xs, [] => (xs[xs.length - 1]?).map fun d => (d, .ml xs.dropLast)
    | _, _ => none
  | .update => match c, vs with
    | .pd kvs, [.p (.dict es)] => if kvs.length + es.length ≤ SZ ∧ (kvs.any fun q => isKey1 q.1) = true ∧ (es.any fun q => isKey1 q.1) = true then some (.p .none, .pd (es.foldl (fun a q => putK a q.1 q.2) kvs)) else none
    | _, _ => none
  | _ => none
def mtV (m : Mt) (a : Val) (vs : List Val) (st : Store) : R Val :=
  match a with
  | .p d =>
    match unPs (vs.map (see st)) with
    | some ds => R.of ((mtP m d ds).map .p) st
    | none => .no
  | .r k =>
    match st[k]? with
    | some c =>
      match mtC m c vs (vs.map (see st)) with
      | some (v, c') => .ok v (st.set k c')
      | none =>
        match seeC c, unPs (vs.map (see st)) with
        | some d, some ds => R.of ((mtP m d ds).map .p) st
        | _, _ => .no
    | none => .no
  | _ => .no
inductive Kd where
  | str | list | dict
  deriving DecidableEq
def mkind (st : Store) (v : Val) : Option Kd :=
  match see st v with
  | .p (.str _) => some .str
  | .p (.list _) => some .list
  | .p (.dict _) => some .dict
  | .r k =>
    match st[k]? with
    | some (.ml _) => some .list
    | some (.md _) => some .dict
    | _ => none
  | _ => none
def supp : Mt → Kd → Bool
  | .split, .str => true
  | .join, .str => true
  | .lstrip, .str => true
  | .partition, .str => true
  | .rpartition, .str => true
  | .startswith, .str => true
  | .append, .list => true
  | .extend, .list => true
  | .pop, .list => true
  | .update, .dict => true
  | _, _ => false
/-- storing at a key or a place -/
def putC (c : Cell) (i : PyData) (v : Val) : Option Cell :=
  match c with
  | .pl ds => match i, v with
    | .int i, .p d => (L2.ixN ds.length i).map fun j => .pl (ds.set j d)
    | _, _ => none
  | .ml vs => match i with
    | .int i => (L2.ixN vs.length i).map fun j => .ml (vs.set j v)
    | _ => none
  | .pd kvs => match v with
    | .p d => if kvs.length < SZ ∧ keyed i = true ∧ kindOK kvs i = true then some (.pd (putK kvs i d)) else none
    | _ => none
  | .md _ => none
  | _ => none

/-! ### the language -/
inductive Ex where
  | var (i : Nat)
  | con (d : PyData)
  | glo (g : Nat)
  | bin (o : BinO) (a b : Ex)
  | neg (a : Ex)
  | and (a b : Ex)
  | or (a b : Ex)
  | not (a : Ex)
  | ite (c a b : Ex)
  | cmp (o : CmpO) (a b : Ex)
  | chn (o o' : CmpO) (a b c : Ex)
  | tup (es : Ex)
  | lst (f : Nat) (es : Ex)
  | dic (f : Nat) (kvs : Ex)
  | idx (a i : Ex)
  | slc (a lo hi : Ex)
  | call (f : Nat) (es : Ex)
  | callk (f n : Nat) (ks : List Str) (pm : List Nat) (a b : Ex)
  | bi (b : Bi) (es : Ex)
  | new (f : Nat) (b : Bi) (es : Ex)
  | cat (f : Nat) (a b : Ex)
  | cut (f : Nat) (a lo hi : Ex)
  | mth (m : Mt) (a es : Ex)
  | isi (a : Ex) (ts : List Ty)
  | lc (f : Nat) (is : List Nat) (it c e : Ex)
  | rng (a b : Ex)
  | enu (a : Ex)
  | zip (a b : Ex)
  | frz (a : Ex)
  | ing (neg : Bool) (a : Ex) (g : Nat)
  | fld (a : Ex) (f : Str)
  | mkx (c : Nat) (es : Ex)
  | mkk (c : Nat) (ks : List Str) (pm : List Nat) (es : Ex)
  | lam (f : Nat) (e : Ex)
  | bad
  | nil
  | cons (a b : Ex)
  deriving Inhabited
inductive Lv where
  | n (i : Nat)
  | t (is : List Nat)
  | sub (a i : Ex)
  | fld (a : Ex) (f : Str)
  deriving Inhabited
inductive Sm where
  | skip
  | seq (a b : Sm)
  | asg (t : Lv) (e : Ex)
  | ex (e : Ex)
  | ret (e : Ex)
  | ife (c : Ex) (a b : Sm)
  | whl (c : Ex) (a : Sm)
  | for_ (is : List Nat) (it : Ex) (b : Sm)
  | brk
  | cnt
  | rse (c : Nat) (es : Ex)
  | tr (b : Sm) (c : Nat) (n : Option Nat) (h : Sm)
  | trn (b : Sm)
  | bad
  deriving Inhabited

/-- what the evaluator is given: the defs, the module's constants, isinstance of own classes, the bound of whiles -/
structure Kit where
  fn : Nat → List Val → Store → R Val
  con : Nat → Option PyData
  sub : Nat → Nat → Bool
  wh : Nat
  isx : Nat → Ty → Option Bool
  iso : Nat → Ty → Option Bool
  fl : Nat → List Str
  fnw : (Store → R Val) → Nat → Store → R Val

def alloc (f : Nat) (vs : List Val) (st : Store) : R Val :=
  match f with
  | 0 => .ok (mkL vs) st
  | 1 => match unPs vs with
    | some ds => .ok (.r st.length) (st ++ [.pl ds])
    | none => .no
  | _ => .ok (.r st.length) (st ++ [.ml vs])
def allocD (f : Nat) (kvs : List (PyData × Val)) (st : Store) : R Val :=
  match f with
  | 0 => match unPs (kvs.map (·.2)) with
    | some ds => .ok (.p (.dict ((kvs.map (·.1)).zip ds))) st
    | none => .no
  | 1 => match unPs (kvs.map (·.2)) with
    | some ds => .ok (.r st.length) (st ++ [.pd ((kvs.map (·.1)).zip ds)])
    | none => .no
  | _ => .ok (.r st.length) (st ++ [.md kvs])
def pairsOf : List Val → Option (List (PyData × Val))
  | [] => some []
  | .p k :: v :: r => (pairsOf r).map ((k, v) :: ·)
  | _ => none
def mergeV (kvs : List (PyData × Val)) : List (PyData × Val) := kvs.foldl (fun a q => putK a q.1 q.2) []
/-- to names: one, or some from a tuple or a list -/
def bindV (st : Store) (is : List Nat) (v : Val) (env : Env) : Option Env :=
  match is with
  | [i] => some (env.set i (some v))
  | is =>
    match see st v with
    | .p (.tuple ds) => if ds.length = is.length then some ((is.zip (ds.map Val.p)).foldl (fun e q => e.set q.1 (some q.2)) env) else none
    | .t vs => if vs.length = is.length then some ((is.zip vs).foldl (fun e q => e.set q.1 (some q.2)) env) else none
    | _ => none
def isB (t : Ty) : Bool := match t with
  | .own _ => false
  | _ => true
def isiV (K : Kit) (st : Store) (v : Val) (t : Ty) : Option Bool :=
  match see st v with
  | .p d => if isB t = true then tyD d t else (match t with
    | .own c => if (K.isx c .verr).isSome = true then some false else none
    | _ => none)
  | .x c _ => K.isx c t
  | .t _ => if isB t = true then some (match t with | .tuple => true | _ => false) else none
  | .l _ => if isB t = true then some (match t with | .list => true | _ => false) else none
  | .r k => match st[k]? with
    | some (.ob c _) => K.iso c t
    | some (.ml _) => if isB t = true then some (match t with | .list => true | _ => false) else none
    | some (.md _) => if isB t = true then some (match t with | .dict => true | _ => false) else none
    | _ => none
def isiAny (K : Kit) (st : Store) (v : Val) : List Ty → Option Bool
  | [] => some false
  | t :: ts => match isiV K st v t with
    | some true => some true
    | some false => isiAny K st v ts
    | none => none
def frzV (v : Val) (st : Store) : R Val :=
  match v with
  | .r k => match st[k]? with
    | some c => match seeC c with
      | some d => .ok (.p d) (st.set k (.fz d))
      | none => .no
    | none => .no
  | v => .ok v st
/-- over the items: each turn gives none or one more item -/
def lcGo (turn : Val → Store → R (Option Val)) : List Val → List Val → Store → R (List Val)
  | [], acc, st => .ok acc st
  | v :: vs, acc, st => match turn v st with
    | .ok (some x) st1 => lcGo turn vs (acc ++ [x]) st1
    | .ok none st1 => lcGo turn vs acc st1
    | .er _ _ _ => .no
    | .no => .no
def intArg : Val → Option Int
  | .p (.int i) => some i
  | _ => none
def rangeV (lo hi : Int) : List Val := (List.range (hi - lo).toNat).map fun (n : Nat) => .p (.int (lo + (n : Int)))
def enumV : Nat → List Val → List Val
  | _, [] => []
  | n, v :: vs => mkT [.p (.int n), v] :: enumV (n + 1) vs

/-- a list, a tuple, a text: its items -/
def itemsF : Val → Option (List Val)
  | .p (.list ds) => some (ds.map .p)
  | .p (.tuple ds) => some (ds.map .p)
  | .p (.str s) => some ((charsOf s).map .p)
  | .t vs => some vs
  | .l vs => some vs
  | _ => none
/-- two lists, or a text and a tuple -/
def zipV (x y : Val) : Option (List Val) :=
  match asL x, asL y with
  | some vs, some ws => some ((vs.zip ws).map fun q => mkT [q.1, q.2])
  | _, _ => match x, y with
    | .p (.str s), .p (.tuple ds) => some ((((charsOf s).map Val.p).zip (ds.map Val.p)).map fun q => mkT [q.1, q.2])
    | _, _ => none
/-- values in another order -/
def permL {α : Type} (pm : List Nat) (xs : List α) : List α := pm.filterMap fun i => xs[i]?
/-- what the fields of a raised exception are -/
def excFs (c : Nat) (fields : Nat → List Str) (ds : List PyData) : Option (List (Str × PyData)) :=
  if (fields c).length = ds.length then some ((fields c).zip ds).reverse else none
/-- an exception as it is made -/
def mkX (c : Nat) (fields : Nat → List Str) (vs : List Val) : Option Val :=
  match unPs vs with
  | some ds => match excFs c fields ds with
    | some fs => some (.x c fs)
    | none => none
  | none => none
mutual
def evalX (K : Kit) : Ex → Env → Store → R Val
  | .var i, env, st => match env[i]? with
    | some (some v) => .ok v st
    | _ => .no
  | .con d, _, st => .ok (.p d) st
  | .glo g, _, st => match K.con g with
    | some d => .ok (.p d) st
    | none => .no
  | .bin o a b, env, st => (evalX K a env st).bind fun x st1 => (evalX K b env st1).bind fun y st2 => R.of (binV o (see st2 x) (see st2 y)) st2
  | .neg a, env, st => (evalX K a env st).bind fun x st1 => match x with
    | .p (.int i) => .ok (.p (.int (-i))) st1
    | _ => .no
  | .and a b, env, st => (evalX K a env st).bind fun x st1 => match truthV (see st1 x) with
    | some true => evalX K b env st1
    | some false => .ok x st1
    | none => .no
  | .or a b, env, st => (evalX K a env st).bind fun x st1 => match truthV (see st1 x) with
    | some true => .ok x st1
    | some false => evalX K b env st1
    | none => .no
  | .not a, env, st => (evalX K a env st).bind fun x st1 => match truthV (see st1 x) with
    | some b => .ok (.p (.bool (!b))) st1
    | none => .no
  | .ite c a b, env, st => (evalX K c env st).bind fun x st1 => match truthV (see st1 x) with
    | some true => evalX K a env st1
    | some false => evalX K b env st1
    | none => .no
  | .cmp o a b, env, st => (evalX K a env st).bind fun x st1 => (evalX K b env st1).bind fun y st2 => match cmpV o (see st2 x) (see st2 y) with
    | some c => .ok (.p (.bool c)) st2
    | none => .no
  | .chn o o' a b c, env, st => (evalX K a env st).bind fun x st1 => (evalX K b env st1).bind fun y st2 => match cmpV o (see st2 x) (see st2 y) with
    | some true => (evalX K c env st2).bind fun z st3 => match cmpV o' (see st3 y) (see st3 z) with
      | some d => .ok (.p (.bool d)) st3
      | none => .no
    | some false => .ok (.p (.bool false)) st2
    | none => .no
  | .tup es, env, st => (evalL K es env st).bind fun vs st1 => if vs.length ≤ SZ then .ok (mkT vs) st1 else .no
  | .lst f es, env, st => (evalL K es env st).bind fun vs st1 => if vs.length ≤ SZ then alloc f vs st1 else .no
  | .dic f es, env, st => (evalL K es env st).bind fun vs st1 => match pairsOf vs with
    | some kvs => if (kvs.all fun q => isKey1 q.1) = true ∧ kvs.length ≤ 15 then allocD f (mergeV kvs) st1 else .no
    | none => .no
  | .idx a i, env, st => (evalX K a env st).bind fun x st1 => (evalX K i env st1).bind fun y st2 => R.of (idxV st2 x y) st2
  | .slc a lo hi, env, st => (evalX K a env st).bind fun x st1 => (evalO K lo env st1).bind fun i st2 => (evalO K hi env st2).bind fun j st3 => R.of (slcV st3 i j x) st3
  | .call f es, env, st => (evalL K es env st).bind fun vs st1 => K.fn f vs st1
  | .callk f n ks pm a b, env, st => (evalL K a env st).bind fun vs st1 => (evalL K b env st1).bind fun ws st2 => if vs.length = n ∧ ws.length = ks.length then K.fn f (permL pm (vs ++ ws)) st2 else .no
  | .bi b es, env, st => (evalL K es env st).bind fun vs st1 => R.of (biV b vs st1) st1
  | .new f b es, env, st => (evalL K es env st).bind fun vs st1 => match biV b vs st1 with
    | some (.p (.list ds)) => alloc f (ds.map .p) st1
    | some (.p (.dict kvs)) => allocD f (kvs.map fun q => (q.1, .p q.2)) st1
    | _ => .no
  | .cat f a b, env, st => (evalX K a env st).bind fun x st1 => (evalX K b env st1).bind fun y st2 => match seqL st2 x, seqL st2 y with
    | some xs, some ys => if xs.length + ys.length ≤ SZ then alloc f (xs ++ ys) st2 else .no
    | _, _ => .no
  | .cut f a lo hi, env, st => (evalX K a env st).bind fun x st1 => (evalO K lo env st1).bind fun i st2 => (evalO K hi env st2).bind fun j st3 => match seqL st3 x with
    | some xs => alloc f (cutL xs i j) st3
    | none => .no
  | .mth m a es, env, st => (evalX K a env st).bind fun x st1 => match mkind st1 x with
    | some kd => if supp m kd = true then (evalL K es env st1).bind fun vs st2 => mtV m x vs st2 else .no
    | none => .no
  | .isi a ts, env, st => (evalX K a env st).bind fun x st1 => match isiAny K st1 x ts with
    | some b => .ok (.p (.bool b)) st1
    | none => .no
  | .lc f is it c e, env, st => (evalI K it env st).bind fun items st1 =>
    (lcGo (fun v s => match bindV s is v env with
      | some env1 => (evalT K c env1 s).bind fun b s1 => match b with
        | true => (evalX K e env1 s1).bind fun x s2 => .ok (some x) s2
        | false => .ok none s1
      | none => .no) items [] st1).bind fun vs st2 => if vs.length ≤ SZ then alloc f vs st2 else .no
  | .frz a, env, st => (evalX K a env st).bind fun x st1 => frzV x st1
  | .ing neg a g, env, st => (evalX K a env st).bind fun x st1 => match see st1 x, K.con g with
    | .p d, some (.tuple ds) => if flatD d = true ∧ ds.all flatD = true then .ok (.p (.bool (if neg then !(ds.any fun z => PyData.eqv z d) else ds.any fun z => PyData.eqv z d))) st1 else .no
    | _, _ => .no
  | .fld a f, env, st => (evalX K a env st).bind fun x st1 => match x with
    | .x c fs => if (K.fl c).contains f = true then (match fs.lookup f with
      | some d => .ok (.p d) st1
      | none => .no) else .no
    | _ => .no
  | .mkx c es, env, st => (evalL K es env st).bind fun vs st1 => R.of (mkX c K.fl vs) st1
  | .mkk c ks pm es, env, st => (evalL K es env st).bind fun vs st1 => if vs.length = ks.length then R.of (mkX c K.fl (permL pm vs)) st1 else .no
  | .lam f e, env, st => match K.fnw (fun s => evalX K e env s) f st with
    | .ok v s => .ok v s
    | _ => .no
  | _, _, _ => .no
/-- a list of expressions -/
def evalL (K : Kit) : Ex → Env → Store → R (List Val)
  | .nil, _, st => .ok [] st
  | .cons a b, env, st => (evalX K a env st).bind fun x st1 => (evalL K b env st1).bind fun xs st2 => .ok (x :: xs) st2
  | _, _, _ => .no
/-- a part of a slice -/
def evalO (K : Kit) : Ex → Env → Store → R (Option Int)
  | .nil, _, st => .ok none st
  | .cons a _, env, st => (evalX K a env st).bind fun x st1 => match x with
    | .p (.int i) => .ok (some i) st1
    | _ => .no
  | _, _, _ => .no
/-- a test; nil: no test -/
def evalT (K : Kit) : Ex → Env → Store → R Bool
  | .nil, _, st => .ok true st
  | .cons a _, env, st => (evalX K a env st).bind fun x st1 => match truthV (see st1 x) with
    | some b => .ok b st1
    | none => .no
  | _, _, _ => .no
/-- what a for walks -/
def evalI (K : Kit) : Ex → Env → Store → R (List Val)
  | .rng a b, env, st => (evalX K a env st).bind fun x st1 => (evalX K b env st1).bind fun y st2 => match x, y with
    | .p (.int i), .p (.int j) => if -(2 ^ 62) ≤ i ∧ i < 2 ^ 62 ∧ -(2 ^ 62) ≤ j ∧ j < 2 ^ 62 then .ok (rangeV i j) st2 else .no
    | _, _ => .no
  | .enu a, env, st => (evalX K a env st).bind fun x st1 => (frzV x st1).bind fun x st1 => match asL x with
    | some vs => .ok (enumV 0 vs) st1
    | none => .no
  | .zip a b, env, st => (evalX K a env st).bind fun x st1 => (evalX K b env st1).bind fun y st2 => (frzV x st2).bind fun x st2 => (frzV y st2).bind fun y st2 => match zipV x y with
    | some vs => .ok vs st2
    | none => .no
  | .cons a _, env, st => (evalX K a env st).bind fun x st1 => (frzV x st1).bind fun x st1 => match itemsF x with
    | some vs => .ok vs st1
    | none => .no
  | _, _, _ => .no
end

inductive Fl where
  | nx (env : Env) (st : Store)
  | rt (v : Val) (st : Store)
  | bk (env : Env) (st : Store)
  | ct (env : Env) (st : Store)
  | er (c : Nat) (fs : List (Str × PyData)) (env : Env) (st : Store)
  | no
def R.fl {α : Type} (r : R α) (env : Env) (f : α → Store → Fl) : Fl :=
  match r with
  | .ok a st => f a st
  | .er c fs st => .er c fs env st
  | .no => .no
@[simp] theorem R.fl_ok {α : Type} (a : α) (st : Store) (env : Env) (f : α → Store → Fl) : (R.ok a st).fl env f = f a st := rfl
@[simp] theorem R.fl_er {α : Type} (c : Nat) (fs : List (Str × PyData)) (st : Store) (env : Env) (f : α → Store → Fl) : (R.er c fs st : R α).fl env f = .er c fs env st := rfl
@[simp] theorem R.fl_no {α : Type} (env : Env) (f : α → Store → Fl) : (R.no : R α).fl env f = .no := rfl
def forGo (turn : Val → Env → Store → Fl) : List Val → Env → Store → Fl
  | [], env, st => .nx env st
  | v :: vs, env, st => match turn v env st with
    | .nx e1 s1 => forGo turn vs e1 s1
    | .ct e1 s1 => forGo turn vs e1 s1
    | .bk e1 s1 => .nx e1 s1
    | .rt v s1 => .rt v s1
    | .er c fs e1 s1 => .er c fs e1 s1
    | .no => .no
def whGo (test : Env → Store → R Bool) (turn : Env → Store → Fl) : Nat → Env → Store → Fl
  | 0, _, _ => .no
  | n + 1, env, st => (test env st).fl env fun b s1 => match b with
    | false => .nx env s1
    | true => match turn env s1 with
      | .nx e1 s1 => whGo test turn n e1 s1
      | .ct e1 s1 => whGo test turn n e1 s1
      | .bk e1 s1 => .nx e1 s1
      | .rt v s1 => .rt v s1
      | .er c fs e1 s1 => .er c fs e1 s1
      | .no => .no
def execS (K : Kit) (fields : Nat → List Str) : Sm → Env → Store → Fl
  | .skip, env, st => .nx env st
  | .seq a b, env, st => match execS K fields a env st with
    | .nx e1 s1 => execS K fields b e1 s1
    | f => f
  | .asg t e, env, st => (evalX K e env st).fl env fun v s1 => match t with
    | .n i => .nx (env.set i (some v)) s1
    | .t is => match bindV s1 is v env with
      | some env1 => .nx env1 s1
      | none => .no
    | .sub a i => (evalX K a env s1).fl env fun x s2 => (evalX K i env s2).fl env fun y s3 => match x, y with
      | .r k, .p i => match s3[k]? with
        | some c => match putC c i v with
          | some c' => .nx env (s3.set k c')
          | none => .no
        | none => .no
      | _, _ => .no
    | .fld _ _ => .no
  | .ex e, env, st => (evalX K e env st).fl env fun _ s1 => .nx env s1
  | .ret e, env, st => (evalX K e env st).fl env fun v s1 => .rt v s1
  | .ife c a b, env, st => (evalT K c env st).fl env fun t s1 => match t with
    | true => execS K fields a env s1
    | false => execS K fields b env s1
  | .whl c a, env, st => whGo (evalT K c) (execS K fields a) K.wh env st
  | .for_ is it b, env, st => (evalI K it env st).fl env fun items s1 => forGo (fun v e s => match bindV s is v e with
    | some e1 => execS K fields b e1 s
    | none => .no) items env s1
  | .bad, _, _ => .no
  | .brk, env, st => .bk env st
  | .cnt, env, st => .ct env st
  | .rse c es, env, st => (evalL K es env st).fl env fun vs s1 => match unPs vs with
    | some ds => match excFs c fields ds with
      | some fs => .er c fs env s1
      | none => .no
    | none => .no
  | .trn b, env, st => match execS K fields b env st with
    | .er _ _ _ _ => .no
    | f => f
  | .tr b c n h, env, st => match execS K fields b env st with
    | .er c' fs e1 s1 => if K.sub c' c then (match n with
        | some i => (match execS K fields h (e1.set i (some (.x c' fs))) s1 with
          | .nx e2 s2 => .nx (e2.set i none) s2
          | .bk e2 s2 => .bk (e2.set i none) s2
          | .ct e2 s2 => .ct (e2.set i none) s2
          | f => f)
        | none => execS K fields h e1 s1) else .er c' fs e1 s1
    | f => f

structure Fn where
  np : Nat
  ns : Nat
  keep : Bool
  body : Sm
/-- a def that is handed a lambda: names = data; try: [found =] work() / except cls as e: err = e; then post -/
structure LFn where
  ns : Nat
  keep : Bool
  pre : List (Nat × PyData)
  found : Option Nat
  cls : Nat
  en : Nat
  err : Nat
  post : Sm
structure Pg where
  fns : Nat → Option Fn
  con : Nat → Option PyData
  sub : Nat → Nat → Bool
  fields : Nat → List Str
  wh : Nat
  isx : Nat → Ty → Option Bool
  iso : Nat → Ty → Option Bool
  lfn : Nat → Option LFn
mutual
def below (n : Nat) : Val → Bool
  | .p _ => true
  | .r k => decide (k < n)
  | .t xs => belowL n xs
  | .l xs => belowL n xs
  | .x _ _ => true
def belowL (n : Nat) : List Val → Bool
  | [] => true
  | v :: vs => below n v && belowL n vs
end
def cellBelow (n : Nat) : Cell → Bool
  | .pl _ => true
  | .ml vs => belowL n vs
  | .pd _ => true
  | .md kvs => belowL n (kvs.map (·.2))
  | .ob _ fs => belowL n (fs.map (·.2))
  | .fz _ => true
  | .lk c => cellBelow n c
/-- a def is left: its own cells are forgotten -/
def leave (keep : Bool) (n : Nat) (v : Val) (st : Store) : R Val :=
  match keep with
  | true => .ok v st
  | false =>
    if (st.take n).all (cellBelow n) = true then
      match v with
      | .p d => .ok (.p d) (st.take n)
      | .r k => if k < n then .ok (.r k) (st.take n) else match see st v with
        | .p d => .ok (.p d) (st.take n)
        | _ => .no
      | w => if below n w = true then .ok w (st.take n) else .no
    else .no
def leaveE (keep : Bool) (n : Nat) (c : Nat) (fs : List (Str × PyData)) (st : Store) : R Val :=
  match keep with
  | true => .er c fs st
  | false => if (st.take n).all (cellBelow n) then .er c fs (st.take n) else .no
/-- behind a def's body -/
def outB (keep : Bool) (n : Nat) (r : Fl) : R Val :=
  match r with
  | .rt v s1 => leave keep n v s1
  | .nx _ s1 => leave keep n (.p .none) s1
  | .er c fs _ s1 => leaveE keep n c fs s1
  | .bk _ _ => .no
  | .ct _ _ => .no
  | .no => .no
/-- a def's body -/
def runB (K : Kit) (fl : Nat → List Str) (d : Fn) (vs : List Val) (st : Store) : R Val :=
  if vs.length = d.np then outB d.keep st.length (execS K fl d.body (vs.map some ++ List.replicate (d.ns - d.np) none) st) else .no
def preE (d : LFn) : Env := d.pre.foldl (fun e q => e.set q.1 (some (.p q.2))) (List.replicate d.ns none)
def foundE (d : LFn) (v : Val) : Env := match d.found with
  | some i => (preE d).set i (some v)
  | none => preE d
def errE (d : LFn) (v : Val) : Env := (((preE d).set d.en (some v)).set d.err (some v)).set d.en none
/-- a def -/
def callF (P : Pg) (K : Kit) (f : Nat) (vs : List Val) (st : Store) : R Val :=
  match P.fns f with
  | some d => runB K P.fields d vs st
  | none => .no
/-- a def that is handed a lambda -/
def callL (P : Pg) (K : Kit) (wk : Store → R Val) (f : Nat) (st : Store) : R Val :=
  match P.lfn f with
  | some d => match wk st with
    | .ok v s1 => outB d.keep st.length (execS K P.fields d.post (foundE d v) s1)
    | .er c fs s1 => if P.sub c d.cls = true then outB d.keep st.length (execS K P.fields d.post (errE d (.x c fs)) s1) else .no
    | .no => .no
  | none => .no
def runs (P : Pg) : Nat → (Nat → List Val → Store → R Val) × ((Store → R Val) → Nat → Store → R Val)
  | 0 => (fun _ _ _ => .no, fun _ _ _ => .no)
  | n + 1 => (callF P ⟨(runs P n).1, P.con, P.sub, P.wh, P.isx, P.iso, P.fields, (runs P n).2⟩, callL P ⟨(runs P n).1, P.con, P.sub, P.wh, P.isx, P.iso, P.fields, (runs P n).2⟩)
def runF (P : Pg) (n : Nat) : Nat → List Val → Store → R Val := (runs P n).1
def runL (P : Pg) (n : Nat) : (Store → R Val) → Nat → Store → R Val := (runs P n).2
def kitOf (P : Pg) (n : Nat) : Kit := ⟨runF P n, P.con, P.sub, P.wh, P.isx, P.iso, P.fields, runL P n⟩
theorem runF_succ (P : Pg) (n f : Nat) (vs : List Val) (st : Store) : runF P (n + 1) f vs st = match P.fns f with
  | some d => runB (kitOf P n) P.fields d vs st
  | none => .no := rfl
theorem runL_succ (P : Pg) (n : Nat) (wk : Store → R Val) (f : Nat) (st : Store) : runL P (n + 1) wk f st = callL P (kitOf P n) wk f st := rfl
end Vm
end

section
/-! V1: how the evaluator's values stand in the abstract heap. -/
namespace Vm
open PySem L2

def keyD : Key → PyData
  | .inl i => .int i
  | .inr x => .str x
mutual
inductive Dat (K : PySem.W.Frag) (F : Hp) : V → PyData → Prop
  | non : Dat K F .non .none
  | bl (b : Bool) : Dat K F (.bl b) (.bool b)
  | int (i : Int) : Dat K F (.int i) (.int i)
  | str (x : Str) : Dat K F (.str x) (.str x)
  | lst {a : Addr} {xs : List V} {ds : List PyData} : Rd F a (.lst xs) → DatL K F xs ds → Dat K F (.ref a) (.list ds)
  | tup {a : Addr} {xs : List V} {ds : List PyData} : F a = some (.tup xs) → DatL K F xs ds → Dat K F (.ref a) (.tuple ds)
  | dik {a : Addr} {kvs : List (Key × V)} {es : List (PyData × PyData)} : Rd F a (.dK kvs) → DatK K F kvs es → Dat K F (.ref a) (.dict es)
  | dit {a : Addr} {kvs : List (List Key × V)} {es : List (PyData × PyData)} : Rd F a (.dT kvs) → DatT K F kvs es → Dat K F (.ref a) (.dict es)
inductive DatL (K : PySem.W.Frag) (F : Hp) : List V → List PyData → Prop
  | nil : DatL K F [] []
  | cons {v : V} {vs : List V} {d : PyData} {ds : List PyData} : Dat K F v d → DatL K F vs ds → DatL K F (v :: vs) (d :: ds)
inductive DatK (K : PySem.W.Frag) (F : Hp) : List (Key × V) → List (PyData × PyData) → Prop
  | nil : DatK K F [] []
  | cons {k : Key} {v : V} {vs : List (Key × V)} {d : PyData} {ds : List (PyData × PyData)} : Dat K F v d → DatK K F vs ds → DatK K F ((k, v) :: vs) ((keyD k, d) :: ds)
inductive DatT (K : PySem.W.Frag) (F : Hp) : List (List Key × V) → List (PyData × PyData) → Prop
  | nil : DatT K F [] []
  | cons {k : List Key} {v : V} {vs : List (List Key × V)} {d : PyData} {ds : List (PyData × PyData)} : Dat K F v d → DatT K F vs ds → DatT K F ((k, v) :: vs) ((.tuple (k.map keyD), d) :: ds)
end
/-- what F holds stands in H; a dict may be locked -/
def Sub (F H : Hp) : Prop := ∀ a o, F a = some o → H a = some o ∨ ((∃ kvs, o = .dK kvs) ∨ ∃ kvs, o = .dT kvs) ∧ ∃ ob, H a = some (.frz ob o)
theorem Sub.refl (F : Hp) : Sub F F := fun _ _ h => .inl h
theorem Sub.lst {F H : Hp} (s : Sub F H) {a : Addr} {xs : List V} (h : F a = some (.lst xs)) : H a = some (.lst xs) := by
  rcases s a _ h with h | ⟨⟨_, e⟩ | ⟨_, e⟩, _⟩
  · exact h
  · cases e
  · cases e
theorem Sub.tup {F H : Hp} (s : Sub F H) {a : Addr} {xs : List V} (h : F a = some (.tup xs)) : H a = some (.tup xs) := by
  rcases s a _ h with h | ⟨⟨_, e⟩ | ⟨_, e⟩, _⟩
  · exact h
  · cases e
  · cases e
theorem Sub.frz {F H : Hp} (s : Sub F H) {a : Addr} {ob : Obj} {u : HO} (h : F a = some (.frz ob u)) : H a = some (.frz ob u) := by
  rcases s a _ h with h | ⟨⟨_, e⟩ | ⟨_, e⟩, _⟩
  · exact h
  · cases e
  · cases e
theorem Sub.rd {F H : Hp} (s : Sub F H) {a : Addr} {u : HO} (h : Rd F a u) : Rd H a u := by
  rcases h with h | ⟨o, h⟩
  · rcases s a _ h with h | ⟨_, ob, h⟩
    · exact .inl h
    · exact .inr ⟨ob, h⟩
  · exact .inr ⟨o, s.frz h⟩
theorem Sub.seq {K : PySem.W.Frag} {F H : Hp} (s : Sub F H) {a : Addr} {xs : List V} (h : SqL K F a xs) : SqL K H a xs := h.imp s.rd id
theorem Sub.seqT {K : PySem.W.Frag} {F H : Hp} (s : Sub F H) {a : Addr} {xs : List V} (h : SqT K F a xs) : SqT K H a xs := h.imp s.rd id
theorem Same.sub {F H : Hp} (s : Same F H) : Sub F H := fun a o h => .inl (s a o h)

section
variable {K : PySem.W.Frag} {F H : Hp}
mutual
theorem Dat.mono (s : Sub F H) : ∀ (d : PyData) (v : V), Dat K F v d → Dat K H v d
  | .none, _, h => by cases h; exact .non
  | .bool b, _, h => by cases h; exact .bl b
  | .int i, _, h => by cases h; exact .int i
  | .str x, _, h => by cases h; exact .str x
  | .list ds, _, h => by
    cases h with
    | lst h1 h2 => exact .lst (s.rd h1) (DatL.mono s ds _ h2)
  | .tuple ds, _, h => by
    cases h with
    | tup h1 h2 => exact .tup (s.tup h1) (DatL.mono s ds _ h2)
  | .dict es, _, h => by
    cases h with
    | dik h1 h2 => exact .dik (s.rd h1) (DatK.mono s es _ h2)
    | dit h1 h2 => exact .dit (s.rd h1) (DatT.mono s es _ h2)
theorem DatL.mono (s : Sub F H) : ∀ (ds : List PyData) (vs : List V), DatL K F vs ds → DatL K H vs ds
  | [], _, h => by cases h; exact .nil
  | d :: ds, _, h => by
    cases h with
    | cons h1 h2 => exact .cons (Dat.mono s d _ h1) (DatL.mono s ds _ h2)
theorem DatK.mono (s : Sub F H) : ∀ (ds : List (PyData × PyData)) (vs : List (Key × V)), DatK K F vs ds → DatK K H vs ds
  | [], _, h => by cases h; exact .nil
  | (k, d) :: ds, _, h => by
    cases h with
    | cons h1 h2 => exact .cons (Dat.mono s d _ h1) (DatK.mono s ds _ h2)
theorem DatT.mono (s : Sub F H) : ∀ (ds : List (PyData × PyData)) (vs : List (List Key × V)), DatT K F vs ds → DatT K H vs ds
  | [], _, h => by cases h; exact .nil
  | (k, d) :: ds, _, h => by
    cases h with
    | cons h1 h2 => exact .cons (Dat.mono s d _ h1) (DatT.mono s ds _ h2)
end
theorem Dat.up {v : V} {d : PyData} (s : Sub F H) (h : Dat K F v d) : Dat K H v d := Dat.mono s d v h
theorem DatL.up {vs : List V} {ds : List PyData} (s : Sub F H) (h : DatL K F vs ds) : DatL K H vs ds := DatL.mono s ds vs h
mutual
/-- without a dict in it: the layer's own reading -/
theorem Dat.dp : ∀ (d : PyData) (v : V), d.canLay0 = true → Dat K F v d → Dp K F v d
  | .none, _, _, h => by cases h; exact .non
  | .bool b, _, _, h => by cases h; exact .bl b
  | .int i, _, _, h => by cases h; exact .int i
  | .str x, _, _, h => by cases h; exact .str x
  | .list ds, _, c, h => by
    cases h with
    | lst h1 h2 => exact .lst (.inl h1) (DatL.dp ds _ (by simpa [PyData.canLay0] using c) h2)
  | .tuple ds, _, c, h => by
    cases h with
    | tup h1 h2 => exact .tup (SqT.of h1) (DatL.dp ds _ (by simpa [PyData.canLay0] using c) h2)
  | .dict es, _, c, _ => by simp [PyData.canLay0] at c
theorem DatL.dp : ∀ (ds : List PyData) (vs : List V), PyData.canLayAll0 ds = true → DatL K F vs ds → DpAll K F vs ds
  | [], _, _, h => by cases h; exact .nil
  | d :: ds, _, c, h => by
    cases h with
    | cons h1 h2 =>
      have c' : d.canLay0 = true ∧ PyData.canLayAll0 ds = true := by simpa [PyData.canLayAll0] using c
      exact .cons (Dat.dp d _ c'.1 h1) (DatL.dp ds _ c'.2 h2)
end
theorem DatL.length {vs : List V} : ∀ {ds : List PyData}, DatL K F vs ds → vs.length = ds.length := by
  induction vs with
  | nil => intro ds h; cases h; rfl
  | cons v vs ih => intro ds h; cases h with | cons _ h2 => simp [ih h2]
theorem DatL.get : ∀ {vs : List V} {ds : List PyData} {i : Nat} {d : PyData}, DatL K F vs ds → ds[i]? = some d → ∃ v, vs[i]? = some v ∧ Dat K F v d
  | _, _, _, _, .nil, e => by simp at e
  | _, _, 0, _, .cons h _, e => by simp at e; subst e; exact ⟨_, rfl, h⟩
  | _, _, i + 1, _, .cons _ h, e => by
    obtain ⟨v, h1, h2⟩ := DatL.get (i := i) h (by simpa using e)
    exact ⟨v, by simpa using h1, h2⟩
theorem DatL.append : ∀ {vs ws : List V} {ds es : List PyData}, DatL K F vs ds → DatL K F ws es → DatL K F (vs ++ ws) (ds ++ es)
  | _, _, _, _, .nil, h => h
  | _, _, _, _, .cons h1 h2, h => .cons h1 (DatL.append h2 h)
theorem DatL.take : ∀ {vs : List V} {ds : List PyData} (n : Nat), DatL K F vs ds → DatL K F (vs.take n) (ds.take n)
  | _, _, 0, _ => by simp; exact .nil
  | _, _, _ + 1, .nil => .nil
  | _, _, n + 1, .cons h1 h2 => .cons h1 (DatL.take n h2)
theorem DatL.drop : ∀ {vs : List V} {ds : List PyData} (n : Nat), DatL K F vs ds → DatL K F (vs.drop n) (ds.drop n)
  | _, _, 0, h => h
  | _, _, _ + 1, .nil => .nil
  | _, _, n + 1, .cons h1 h2 => DatL.drop n h2
theorem DatL.set {v : V} {d : PyData} (h : Dat K F v d) : ∀ {vs : List V} {ds : List PyData} (i : Nat), DatL K F vs ds → DatL K F (vs.set i v) (ds.set i d)
  | _, _, _, .nil => .nil
  | _, _, 0, .cons _ h2 => .cons h h2
  | _, _, i + 1, .cons h1 h2 => .cons h1 (DatL.set h i h2)
theorem DatL.strs : ∀ (ss : List Str), DatL K F (ss.map V.str) (ss.map .str)
  | [] => .nil
  | s :: ss => .cons (.str s) (DatL.strs ss)
theorem DatL.ints : ∀ (ss : List Int), DatL K F (ss.map V.int) (ss.map .int)
  | [] => .nil
  | s :: ss => .cons (.int s) (DatL.ints ss)
end
end Vm
end

section
/-! V2: the store against the abstract heap; what an evaluation promises. -/
namespace Vm
open PySem L2

structure Tb where
  K : PySem.W.Frag
  exA : Nat → Addr
  obA : Nat → Addr
  G : Hp
  tb : List (Addr × Str)
/-- other objects that are left alone -/
def Tb.wG (T : Tb) (G : Hp) : Tb := { T with G := G }

/-- an exception that is kept: at a, of the class cls, its own dict at d -/
def ExcH (a : Addr) (cls : Value) (d : Addr) : HO := .ext fun h => ∃ (oe : Obj) (vs : Array Value), h.get? a = some oe ∧ oe.cls = cls ∧ oe.dict = some d ∧ oe.data = .fields vs
inductive FldR (K : PySem.W.Frag) (F : Hp) : List (Str × V) → List (Str × PyData) → Prop
  | nil : FldR K F [] []
  | cons {f : Str} {v : V} {d : PyData} {vs : List (Str × V)} {ds : List (Str × PyData)} : Dat K F v d → FldR K F vs ds → FldR K F ((f, v) :: vs) ((f, d) :: ds)
mutual
inductive VRel (T : Tb) (F : Hp) (ι : Nat → Addr) (n : Nat) : Val → V → Prop
  | p {d : PyData} {v : V} : Dat T.K F v d → VRel T F ι n (.p d) v
  | r {k : Nat} : k < n → VRel T F ι n (.r k) (.ref (ι k))
  | t {a : Addr} {xs : List V} {vs : List Val} : F a = some (.tup xs) → VRelL T F ι n vs xs → VRel T F ι n (.t vs) (.ref a)
  | l {a : Addr} {xs : List V} {vs : List Val} : F a = some (.lst xs) → VRelL T F ι n vs xs → VRel T F ι n (.l vs) (.ref a)
  | x {a d : Addr} {c : Nat} {fs : List (Str × V)} {ds : List (Str × PyData)} : F a = some (ExcH a (.ref (T.exA c)) d) → F d = some (.xd fs) → FldR T.K F fs ds → VRel T F ι n (.x c ds) (.ref a)
inductive VRelL (T : Tb) (F : Hp) (ι : Nat → Addr) (n : Nat) : List Val → List V → Prop
  | nil : VRelL T F ι n [] []
  | cons {v : Val} {x : V} {vs : List Val} {xs : List V} : VRel T F ι n v x → VRelL T F ι n vs xs → VRelL T F ι n (v :: vs) (x :: xs)
end
inductive OFld (T : Tb) (F : Hp) (ι : Nat → Addr) (n : Nat) : List (Str × Val) → List (Str × V) → Prop
  | nil : OFld T F ι n [] []
  | cons {f : Str} {v : Val} {x : V} {vs : List (Str × Val)} {xs : List (Str × V)} : VRel T F ι n v x → OFld T F ι n vs xs → OFld T F ι n ((f, v) :: vs) ((f, x) :: xs)
inductive MdK (T : Tb) (F : Hp) (ι : Nat → Addr) (n : Nat) : List (PyData × Val) → List (Key × V) → Prop
  | nil : MdK T F ι n [] []
  | cons {k : Key} {v : Val} {x : V} {vs : List (PyData × Val)} {xs : List (Key × V)} : VRel T F ι n v x → MdK T F ι n vs xs → MdK T F ι n ((keyD k, v) :: vs) ((k, x) :: xs)
inductive MdT (T : Tb) (F : Hp) (ι : Nat → Addr) (n : Nat) : List (PyData × Val) → List (List Key × V) → Prop
  | nil : MdT T F ι n [] []
  | cons {k : List Key} {v : Val} {x : V} {vs : List (PyData × Val)} {xs : List (List Key × V)} : VRel T F ι n v x → MdT T F ι n vs xs → MdT T F ι n ((.tuple (k.map keyD), v) :: vs) ((k, x) :: xs)

structure Next (F : Hp) (ι : Nat → Addr) (n : Nat) (F' : Hp) (ι' : Nat → Addr) : Prop where
  f : ∀ a o, F a = some o → F' a = some o
  i : ∀ k, k < n → ι' k = ι k
theorem Next.refl (F : Hp) (ι : Nat → Addr) (n : Nat) : Next F ι n F ι := ⟨fun _ _ h => h, fun _ _ => rfl⟩
theorem Next.trans {F F1 F2 : Hp} {ι ι1 ι2 : Nat → Addr} {n n1 : Nat} (a : Next F ι n F1 ι1) (b : Next F1 ι1 n1 F2 ι2) (h : n ≤ n1) : Next F ι n F2 ι2 :=
  ⟨fun x o e => b.f x o (a.f x o e), fun k hk => (b.i k (Nat.lt_of_lt_of_le hk h)).trans (a.i k hk)⟩
theorem Next.sub {F F1 : Hp} {ι ι1 : Nat → Addr} {n : Nat} (a : Next F ι n F1 ι1) : Sub F F1 := fun x o e => .inl (a.f x o e)

section
variable {T : Tb} {F F' : Hp} {ι ι' : Nat → Addr} {n n' : Nat}
theorem FldR.mono (s : Sub F F') : ∀ {fs : List (Str × V)} {ds : List (Str × PyData)}, FldR T.K F fs ds → FldR T.K F' fs ds
  | _, _, .nil => .nil
  | _, _, .cons h1 h2 => .cons (h1.up s) (FldR.mono s h2)
mutual
theorem VRel.mono (N : Next F ι n F' ι') (h : n ≤ n') : ∀ (v : Val) (x : V), VRel T F ι n v x → VRel T F' ι' n' v x
  | .p d, _, q => by cases q with | p q => exact .p (q.up N.sub)
  | .r k, _, q => by
    cases q with
    | r q =>
      rw [← N.i k q]
      exact .r (Nat.lt_of_lt_of_le q h)
  | .t vs, _, q => by cases q with | t q1 q2 => exact .t (N.f _ _ q1) (VRelL.mono N h vs _ q2)
  | .l vs, _, q => by cases q with | l q1 q2 => exact .l (N.f _ _ q1) (VRelL.mono N h vs _ q2)
  | .x c ds, _, q => by cases q with | x q1 q2 q3 => exact .x (N.f _ _ q1) (N.f _ _ q2) (q3.mono N.sub)
theorem VRelL.mono (N : Next F ι n F' ι') (h : n ≤ n') : ∀ (vs : List Val) (xs : List V), VRelL T F ι n vs xs → VRelL T F' ι' n' vs xs
  | [], _, q => by cases q; exact .nil
  | v :: vs, _, q => by cases q with | cons q1 q2 => exact .cons (VRel.mono N h v _ q1) (VRelL.mono N h vs _ q2)
end
theorem VRel.up {v : Val} {x : V} (N : Next F ι n F' ι') (h : n ≤ n') (q : VRel T F ι n v x) : VRel T F' ι' n' v x := VRel.mono N h v x q
theorem VRelL.up {v : List Val} {x : List V} (N : Next F ι n F' ι') (h : n ≤ n') (q : VRelL T F ι n v x) : VRelL T F' ι' n' v x := VRelL.mono N h v x q
theorem OFld.up (N : Next F ι n F' ι') (h : n ≤ n') : ∀ {vs : List (Str × Val)} {xs : List (Str × V)}, OFld T F ι n vs xs → OFld T F' ι' n' vs xs
  | _, _, .nil => .nil
  | _, _, .cons h1 h2 => .cons (h1.up N h) (OFld.up N h h2)
theorem MdK.up (N : Next F ι n F' ι') (h : n ≤ n') : ∀ {vs : List (PyData × Val)} {xs : List (Key × V)}, MdK T F ι n vs xs → MdK T F' ι' n' vs xs
  | _, _, .nil => .nil
  | _, _, .cons h1 h2 => .cons (h1.up N h) (MdK.up N h h2)
theorem MdT.up (N : Next F ι n F' ι') (h : n ≤ n') : ∀ {vs : List (PyData × Val)} {xs : List (List Key × V)}, MdT T F ι n vs xs → MdT T F' ι' n' vs xs
  | _, _, .nil => .nil
  | _, _, .cons h1 h2 => .cons (h1.up N h) (MdT.up N h h2)
theorem VRelL.length : ∀ {vs : List Val} {xs : List V}, VRelL T F ι n vs xs → vs.length = xs.length
  | _, _, .nil => rfl
  | _, _, .cons _ h => by simp [VRelL.length h]
theorem VRelL.get : ∀ {vs : List Val} {xs : List V} {i : Nat} {v : Val}, VRelL T F ι n vs xs → vs[i]? = some v → ∃ x, xs[i]? = some x ∧ VRel T F ι n v x
  | _, _, _, _, .nil, e => by simp at e
  | _, _, 0, _, .cons h _, e => by simp at e; subst e; exact ⟨_, rfl, h⟩
  | _, _, i + 1, _, .cons _ h, e => by
    obtain ⟨x, h1, h2⟩ := VRelL.get (i := i) h (by simpa using e)
    exact ⟨x, by simpa using h1, h2⟩
theorem VRelL.append : ∀ {vs ws : List Val} {xs ys : List V}, VRelL T F ι n vs xs → VRelL T F ι n ws ys → VRelL T F ι n (vs ++ ws) (xs ++ ys)
  | _, _, _, _, .nil, h => h
  | _, _, _, _, .cons h1 h2, h => .cons h1 (VRelL.append h2 h)
theorem VRelL.take : ∀ {vs : List Val} {xs : List V} (m : Nat), VRelL T F ι n vs xs → VRelL T F ι n (vs.take m) (xs.take m)
  | _, _, 0, _ => by simp; exact .nil
  | _, _, _ + 1, .nil => .nil
  | _, _, m + 1, .cons h1 h2 => .cons h1 (VRelL.take m h2)
theorem VRelL.drop : ∀ {vs : List Val} {xs : List V} (m : Nat), VRelL T F ι n vs xs → VRelL T F ι n (vs.drop m) (xs.drop m)
  | _, _, 0, h => h
  | _, _, _ + 1, .nil => .nil
  | _, _, m + 1, .cons h1 h2 => VRelL.drop m h2
theorem VRelL.set {v : Val} {x : V} (h : VRel T F ι n v x) : ∀ {vs : List Val} {xs : List V} (i : Nat), VRelL T F ι n vs xs → VRelL T F ι n (vs.set i v) (xs.set i x)
  | _, _, _, .nil => .nil
  | _, _, 0, .cons _ h2 => .cons h h2
  | _, _, i + 1, .cons h1 h2 => .cons h1 (VRelL.set h i h2)
/-- pure items -/
theorem VRelL.pure : ∀ {vs : List Val} {xs : List V} {ds : List PyData}, VRelL T F ι n vs xs → unPs vs = some ds → DatL T.K F xs ds
  | _, _, _, .nil, e => by simp [unPs] at e; subst e; exact .nil
  | v :: vs, _, _, .cons h1 h2, e => by
    cases v with
    | p d =>
      cases h1 with
      | p h1 =>
        cases q : unPs vs with
        | none => simp [unPs, unP, q] at e
        | some es =>
          simp [unPs, unP, q] at e
          subst e
          exact .cons h1 (VRelL.pure h2 q)
    | _ => simp [unPs, unP] at e
theorem VRelL.ofDat : ∀ {xs : List V} {ds : List PyData}, DatL T.K F xs ds → VRelL T F ι n (ds.map .p) xs
  | _, _, .nil => .nil
  | _, _, .cons h1 h2 => .cons (.p h1) (VRelL.ofDat h2)
end

section
variable {T T' : Tb} {F : Hp} {ι : Nat → Addr} {n : Nat}
structure SameT (T T' : Tb) : Prop where
  K : T'.K = T.K
  ex : T'.exA = T.exA
  ob : T'.obA = T.obA
  tb : T'.tb = T.tb
theorem SameT.wG (T : Tb) (G : Hp) : SameT T (T.wG G) := ⟨rfl, rfl, rfl, rfl⟩
theorem SameT.symm (h : SameT T T') : SameT T' T := ⟨h.K.symm, h.ex.symm, h.ob.symm, h.tb.symm⟩
mutual
theorem VRel.tb (h : SameT T T') : ∀ (v : Val) (x : V), VRel T F ι n v x → VRel T' F ι n v x
  | .p d, _, q => by cases q with | p q => exact .p (by rw [h.K]; exact q)
  | .r k, _, q => by cases q with | r q => exact .r q
  | .t vs, _, q => by cases q with | t q1 q2 => exact .t q1 (VRelL.tb h vs _ q2)
  | .l vs, _, q => by cases q with | l q1 q2 => exact .l q1 (VRelL.tb h vs _ q2)
  | .x c ds, _, q => by cases q with | x q1 q2 q3 => exact .x (by rw [h.ex]; exact q1) q2 (by rw [h.K]; exact q3)
theorem VRelL.tb (h : SameT T T') : ∀ (vs : List Val) (xs : List V), VRelL T F ι n vs xs → VRelL T' F ι n vs xs
  | [], _, q => by cases q; exact .nil
  | v :: vs, _, q => by cases q with | cons q1 q2 => exact .cons (VRel.tb h v _ q1) (VRelL.tb h vs _ q2)
end
theorem VRel.to {v : Val} {x : V} (q : VRel T F ι n v x) (h : SameT T T') : VRel T' F ι n v x := VRel.tb h v x q
theorem VRelL.to {v : List Val} {x : List V} (q : VRelL T F ι n v x) (h : SameT T T') : VRelL T' F ι n v x := VRelL.tb h v x q
theorem OFld.to (h : SameT T T') : ∀ {vs : List (Str × Val)} {xs : List (Str × V)}, OFld T F ι n vs xs → OFld T' F ι n vs xs
  | _, _, .nil => .nil
  | _, _, .cons h1 h2 => .cons (h1.to h) (OFld.to h h2)
theorem MdK.to (h : SameT T T') : ∀ {vs : List (PyData × Val)} {xs : List (Key × V)}, MdK T F ι n vs xs → MdK T' F ι n vs xs
  | _, _, .nil => .nil
  | _, _, .cons h1 h2 => .cons (h1.to h) (MdK.to h h2)
theorem MdT.to (h : SameT T T') : ∀ {vs : List (PyData × Val)} {xs : List (List Key × V)}, MdT T F ι n vs xs → MdT T' F ι n vs xs
  | _, _, .nil => .nil
  | _, _, .cons h1 h2 => .cons (h1.to h) (MdT.to h h2)
end
/-- a cell, standing at a -/
def CellR (T : Tb) (F : Hp) (ι : Nat → Addr) (n : Nat) (H : Hp) (a : Addr) : Cell → Prop
  | .pl ds => F a = none ∧ ∃ xs, H a = some (.lst xs) ∧ DatL T.K F xs ds
  | .ml vs => F a = none ∧ ∃ xs, H a = some (.lst xs) ∧ VRelL T F ι n vs xs
  | .pd es => F a = none ∧ ((∃ kvs, H a = some (.dK kvs) ∧ DatK T.K F kvs es) ∨ ∃ kvs, H a = some (.dT kvs) ∧ DatT T.K F kvs es)
  | .md vs => F a = none ∧ ((∃ kvs, H a = some (.dK kvs) ∧ MdK T F ι n vs kvs) ∨ ∃ kvs, H a = some (.dT kvs) ∧ MdT T F ι n vs kvs)
  | .ob c fs => F a = none ∧ ∃ dx gs, H a = some (.ins (T.obA c) dx gs) ∧ OFld T F ι n fs gs
  | .fz d => (∃ o, F a = some o) ∧ Dat T.K F (.ref a) d
  | .lk _ => False
/-- a table stands, while another object is written -/
theorem tabS_upd {H : Hp} {P a : Addr} {q : Str} {o : HO} (t : LamX.TabS H P q) (h1 : P ≠ a) (h2 : ∀ c q, H c = some (LamX.CodeO c q) → c ≠ a) : LamX.TabS (upd H a o) P q := by
  obtain ⟨ps, e1, e2, e3⟩ := t
  refine ⟨ps, by rw [upd_ne h1]; exact e1, e2, fun pos cv hc => ?_⟩
  obtain ⟨c, x1, x2⟩ := e3 pos cv hc
  exact ⟨c, x1, by rw [upd_ne (h2 c q x2)]; exact x2⟩
theorem tabS_at {H : Hp} {P : Addr} {q : Str} (t : LamX.TabS H P q) : ∃ ps, H P = some (.tbl ps) := let ⟨ps, e, _⟩ := t; ⟨ps, e⟩
structure Sim (T : Tb) (F : Hp) (ι : Nat → Addr) (st : Store) (H : Hp) : Prop where
  sub : Sub F H
  cel : ∀ k c, st[k]? = some c → CellR T F ι st.length H (ι k) c
  inj : ∀ j k, j < st.length → k < st.length → ι j = ι k → j = k
  gd : ∀ a o, T.G a = some o → H a = some o
  gf : ∀ a o, T.G a = some o → F a = none ∧ ∀ k, k < st.length → ι k ≠ a
  tb : ∀ p ∈ T.tb, LamX.TabS H p.1 p.2 ∧ F p.1 = none ∧ T.G p.1 = none
  nt : (∀ a ps, F a ≠ some (.tbl ps)) ∧ ∀ a ps, T.G a ≠ some (.tbl ps)

/-- new frozen things -/
structure FX (F H F' H' : Hp) : Prop where
  f : ∀ a o, F a = some o → F' a = some o
  h : ∀ a o, H a = some o → H' a = some o
  new : ∀ a o, F' a = some o → F a = some o ∨ (H a = none ∧ H' a = some o)
  nt : ∀ a ps, F' a = some (.tbl ps) → F a = some (.tbl ps)
theorem FX.refl (F H : Hp) : FX F H F H := ⟨fun _ _ h => h, fun _ _ h => h, fun _ _ h => .inl h, fun _ _ h => h⟩
theorem FX.one {F H : Hp} {p : Addr} {o : HO} (hp : H p = none) (s : Sub F H) (no : ∀ ps, o ≠ .tbl ps := by intro _ z; first | cases z | (unfold ExcH at z; cases z)) : FX F H (upd F p o) (upd H p o) := by
  have fp : F p = none := by
    cases e : F p with
    | none => rfl
    | some u =>
      rcases s p u e with h | ⟨_, ob, h⟩
      · rw [hp] at h; cases h
      · rw [hp] at h; cases h
  refine ⟨fun a u h => ?_, fun a u h => ?_, fun a u h => ?_, fun a ps h => ?_⟩
  rotate_left 3
  · by_cases e : a = p
    · subst e
      rw [upd_same] at h
      exact absurd (Option.some.inj h) (no ps)
    · rw [upd_ne e] at h
      exact h
  · rw [upd_ne (ne_of_none h fp)]; exact h
  · rw [upd_ne (ne_of_none h hp)]; exact h
  · by_cases e : a = p
    · subst e
      rw [upd_same] at h
      exact .inr ⟨hp, by rw [upd_same]; exact h⟩
    · rw [upd_ne e] at h
      exact .inl h
theorem FX.trans {F H F1 H1 F2 H2 : Hp} (a : FX F H F1 H1) (b : FX F1 H1 F2 H2) : FX F H F2 H2 := by
  refine ⟨fun x o h => b.f x o (a.f x o h), fun x o h => b.h x o (a.h x o h), fun x o h => ?_, fun x ps h => a.nt x ps (b.nt x ps h)⟩
  rcases b.new x o h with h1 | ⟨h1, h2⟩
  · rcases a.new x o h1 with h3 | ⟨h3, h4⟩
    · exact .inl h3
    · exact .inr ⟨h3, b.h x o h4⟩
  · refine .inr ⟨?_, h2⟩
    cases e : H x with
    | none => rfl
    | some u => rw [a.h x u e] at h1; cases h1
theorem FX.sub {F H F' H' : Hp} (x : FX F H F' H') (s : Sub F H) : Sub F' H' := fun a o h => by
  rcases x.new a o h with h | ⟨_, h⟩
  · rcases s a o h with h | ⟨q, ob, h⟩
    · exact .inl (x.h a o h)
    · exact .inr ⟨q, ob, x.h a _ h⟩
  · exact .inl h
section
variable {T : Tb} {F F' H H' : Hp} {ι ι' : Nat → Addr} {n n' : Nat} {st : Store}
theorem FX.next (x : FX F H F' H') : Next F ι n F' ι := ⟨x.f, fun _ _ => rfl⟩
theorem FX.none (x : FX F H F' H') {a : Addr} {o : HO} (h : F a = none) (e : H a = some o) : F' a = none := by
  cases q : F' a with
  | none => rfl
  | some u =>
    rcases x.new a u q with h1 | ⟨h1, _⟩
    · rw [h] at h1; cases h1
    · rw [e] at h1; cases h1
theorem DatK.up (s : Sub F F') {vs : List (Key × V)} {ds : List (PyData × PyData)} (h : DatK T.K F vs ds) : DatK T.K F' vs ds := DatK.mono s ds vs h
theorem DatT.up (s : Sub F F') {vs : List (List Key × V)} {ds : List (PyData × PyData)} (h : DatT T.K F vs ds) : DatT T.K F' vs ds := DatT.mono s ds vs h
theorem FX.subF (x : FX F H F' H') : Sub F F' := fun a o h => .inl (x.f a o h)
/-- a cell stands on, while frozen things come -/
theorem CellR.fx (x : FX F H F' H') {a : Addr} {c : Cell} (h : CellR T F ι n H a c) : CellR T F' ι n H' a c := by
  have N : Next F ι n F' ι := x.next
  cases c with
  | pl ds => obtain ⟨h0, xs, h1, h2⟩ := h; exact ⟨x.none h0 h1, xs, x.h _ _ h1, h2.up x.subF⟩
  | ml ds => obtain ⟨h0, xs, h1, h2⟩ := h; exact ⟨x.none h0 h1, xs, x.h _ _ h1, h2.up N (Nat.le_refl _)⟩
  | pd ds =>
    obtain ⟨h0, ⟨xs, h1, h2⟩ | ⟨xs, h1, h2⟩⟩ := h
    · exact ⟨x.none h0 h1, .inl ⟨xs, x.h _ _ h1, h2.up (T := T) x.subF⟩⟩
    · exact ⟨x.none h0 h1, .inr ⟨xs, x.h _ _ h1, h2.up (T := T) x.subF⟩⟩
  | md ds =>
    obtain ⟨h0, ⟨xs, h1, h2⟩ | ⟨xs, h1, h2⟩⟩ := h
    · exact ⟨x.none h0 h1, .inl ⟨xs, x.h _ _ h1, h2.up N (Nat.le_refl _)⟩⟩
    · exact ⟨x.none h0 h1, .inr ⟨xs, x.h _ _ h1, h2.up N (Nat.le_refl _)⟩⟩
  | ob c fs => obtain ⟨h0, dx, gs, h1, h2⟩ := h; exact ⟨x.none h0 h1, dx, gs, x.h _ _ h1, h2.up N (Nat.le_refl _)⟩
  | fz d => obtain ⟨⟨o, h1⟩, h2⟩ := h; exact ⟨⟨o, x.f _ _ h1⟩, h2.up x.subF⟩
  | lk c => exact h.elim
theorem Sim.fx (S : Sim T F ι st H) (x : FX F H F' H') : Sim T F' ι st H' := ⟨x.sub S.sub, fun k c e => (S.cel k c e).fx x, S.inj, fun a o e => x.h a o (S.gd a o e), fun a o e => ⟨x.none (S.gf a o e).1 (S.gd a o e), (S.gf a o e).2⟩, fun p hp => let ⟨t, h1, h2⟩ := S.tb p hp; let ⟨_, e⟩ := tabS_at t; ⟨t.ext x.h, x.none h1 e, h2⟩, fun a ps z => S.nt.1 a ps (x.nt a ps z), S.nt.2⟩
theorem CellR.to {T T' : Tb} {F H : Hp} {ι : Nat → Addr} {n : Nat} {a : Addr} {c : Cell} (h : CellR T F ι n H a c) (t : SameT T T') : CellR T' F ι n H a c := by
  cases c with
  | pl ds => obtain ⟨h0, xs, h1, h2⟩ := h; exact ⟨h0, xs, h1, by rw [t.K]; exact h2⟩
  | ml ds => obtain ⟨h0, xs, h1, h2⟩ := h; exact ⟨h0, xs, h1, h2.to t⟩
  | pd ds =>
    obtain ⟨h0, ⟨xs, h1, h2⟩ | ⟨xs, h1, h2⟩⟩ := h
    · exact ⟨h0, .inl ⟨xs, h1, by rw [t.K]; exact h2⟩⟩
    · exact ⟨h0, .inr ⟨xs, h1, by rw [t.K]; exact h2⟩⟩
  | md ds =>
    obtain ⟨h0, ⟨xs, h1, h2⟩ | ⟨xs, h1, h2⟩⟩ := h
    · exact ⟨h0, .inl ⟨xs, h1, h2.to t⟩⟩
    · exact ⟨h0, .inr ⟨xs, h1, h2.to t⟩⟩
  | ob c fs => obtain ⟨h0, dx, gs, h1, h2⟩ := h; exact ⟨h0, dx, gs, by rw [t.ob]; exact h1, h2.to t⟩
  | fz d => obtain ⟨h1, h2⟩ := h; exact ⟨h1, by rw [t.K]; exact h2⟩
  | lk c => exact h.elim
/-- with one more object left alone -/
theorem Sim.guard {T : Tb} {F H : Hp} {ι : Nat → Addr} {st : Store} {p : Addr} {o : HO} (S : Sim T F ι st H) (hp : H p = none) (no : ∀ ps, o ≠ .tbl ps := by intro _ z; cases z) : Sim (T.wG (upd T.G p o)) F ι st (upd H p o) := by
  have fp : F p = none := by
    cases e : F p with
    | none => rfl
    | some u => rcases S.sub p u e with h | ⟨_, _, h⟩ <;> (rw [hp] at h; cases h)
  have ne : ∀ k, k < st.length → ι k ≠ p := fun k hk e => by
    have c := S.cel k st[k] (by simp [hk])
    rw [e] at c
    generalize st[k] = cc at c
    cases cc with
    | pl ds => obtain ⟨_, xs, h, _⟩ := c; rw [hp] at h; cases h
    | ml ds => obtain ⟨_, xs, h, _⟩ := c; rw [hp] at h; cases h
    | pd ds => obtain ⟨_, ⟨_, h, _⟩ | ⟨_, h, _⟩⟩ := c <;> (rw [hp] at h; cases h)
    | md ds => obtain ⟨_, ⟨_, h, _⟩ | ⟨_, h, _⟩⟩ := c <;> (rw [hp] at h; cases h)
    | ob c fs => obtain ⟨_, _, _, h, _⟩ := c; rw [hp] at h; cases h
    | fz d => obtain ⟨⟨u, h⟩, _⟩ := c; rw [fp] at h; cases h
    | lk c => exact c.elim
  refine ⟨fun a u e => ?_, fun k c e => ?_, S.inj, fun a u e => ?_, fun a u e => ?_, fun q hq => ?_, S.nt.1, fun a ps z => ?_⟩
  rotate_left 5
  · have z : upd T.G p o a = some (.tbl ps) := z
    by_cases e : a = p
    · subst e
      rw [upd_same] at z
      exact no ps (Option.some.inj z)
    · rw [upd_ne e] at z
      exact S.nt.2 a ps z
  rotate_left 4
  · obtain ⟨t, h1, h2⟩ := S.tb q hq
    obtain ⟨_, e⟩ := tabS_at t
    refine ⟨t.ext fun b u h => by rw [upd_ne (ne_of_none h hp)]; exact h, h1, ?_⟩
    show upd T.G p o q.1 = none
    rw [upd_ne (ne_of_none e hp)]
    exact h2
  · have : a ≠ p := ne_of_none e fp
    rcases S.sub a u e with h | ⟨q, ob, h⟩
    · exact .inl (by rw [upd_ne this]; exact h)
    · exact .inr ⟨q, ob, by rw [upd_ne this]; exact h⟩
  · have c := (S.cel k c e).to (SameT.wG T (upd T.G p o))
    have hk : k < st.length := by
      rcases Nat.lt_or_ge k st.length with h | h
      · exact h
      · rw [List.getElem?_eq_none h] at e; cases e
    have c1 : ∀ u, H (ι k) = some u → upd H p o (ι k) = some u := fun u h => by rw [upd_ne (ne k hk)]; exact h
    rename_i cc
    cases cc with
    | pl ds => obtain ⟨h0, xs, h1, h2⟩ := c; exact ⟨h0, xs, c1 _ h1, h2⟩
    | ml ds => obtain ⟨h0, xs, h1, h2⟩ := c; exact ⟨h0, xs, c1 _ h1, h2⟩
    | pd ds =>
      obtain ⟨h0, ⟨xs, h1, h2⟩ | ⟨xs, h1, h2⟩⟩ := c
      · exact ⟨h0, .inl ⟨xs, c1 _ h1, h2⟩⟩
      · exact ⟨h0, .inr ⟨xs, c1 _ h1, h2⟩⟩
    | md ds =>
      obtain ⟨h0, ⟨xs, h1, h2⟩ | ⟨xs, h1, h2⟩⟩ := c
      · exact ⟨h0, .inl ⟨xs, c1 _ h1, h2⟩⟩
      · exact ⟨h0, .inr ⟨xs, c1 _ h1, h2⟩⟩
    | ob c fs => obtain ⟨h0, dx, gs, h1, h2⟩ := c; exact ⟨h0, dx, gs, c1 _ h1, h2⟩
    | fz d => exact c
    | lk c => exact c.elim
  · by_cases h : a = p
    · subst h
      have e : upd T.G a o a = some u := e
      rw [upd_same] at e ⊢
      exact e
    · have e : upd T.G p o a = some u := e
      rw [upd_ne h] at e ⊢
      exact S.gd a u e
  · by_cases h : a = p
    · subst h
      exact ⟨fp, ne⟩
    · have e : upd T.G p o a = some u := e
      rw [upd_ne h] at e
      exact S.gf a u e

/-! ### names -/
structure EnvR (T : Tb) (F : Hp) (ι : Nat → Addr) (n : Nat) (σ : L2.St) (env : Env) : Prop where
  len : env.length ≤ σ.length
  at_ : ∀ (i : Nat) (v : Val), env[i]? = some (some v) → ∃ x : V, σ[i]? = some (some x) ∧ VRel T F ι n v x
theorem EnvR.up {σ : L2.St} {env : Env} (N : Next F ι n F' ι') (h : n ≤ n') (e : EnvR T F ι n σ env) : EnvR T F' ι' n' σ env := ⟨e.len, fun i v q => by
  obtain ⟨x, h1, h2⟩ := e.at_ i v q
  exact ⟨x, h1, h2.up N h⟩⟩
end

/-! ### what an evaluation promises -/
abbrev XR := L2.WX
/-- the fields of an exception that flies: its class, its own dict -/
structure ExcR (T : Tb) (F : Hp) (c : Nat) (ds : List (Str × PyData)) (cls : Value) (d : Option Addr) : Prop where
  cls : cls = .ref (T.exA c)
  dct : ∃ dd fs, d = some dd ∧ F dd = some (.xd fs) ∧ FldR T.K F fs ds
def PostG {α β : Type} (Rel : Hp → (Nat → Addr) → Nat → α → β → Prop) (T : Tb) (W : L2.WX) (σ : L2.St) (F : Hp) (ι : Nat → Addr) (n : Nat) (r : R α) (Q : β → Hp → Prop) : Prop :=
  match r with
  | .ok v st' => ∀ F' ι' H' x, Next F ι n F' ι' → n ≤ st'.length → Sim T F' ι' st' H' → Rel F' ι' st'.length v x → Q x H'
  | .er c fs st' => ∀ F' ι' H' cls d, Next F ι n F' ι' → n ≤ st'.length → Sim T F' ι' st' H' → ExcR T F' c fs cls d → W cls d σ H'
  | .no => False
section
variable {α β γ δ : Type} {RA : Hp → (Nat → Addr) → Nat → α → β → Prop} {RB : Hp → (Nat → Addr) → Nat → γ → δ → Prop} {T : Tb} {W : L2.WX} {σ : L2.St} {F F' H H' : Hp} {ι ι' : Nat → Addr} {n n' : Nat} {st : Store}
theorem PostG.up {r : R α} {Q : β → Hp → Prop} (N : Next F ι n F' ι') (h : n ≤ n') (hn : ∀ (v : α) (s : Store), r = .ok v s → n' ≤ s.length → True) (p : PostG RA T W σ F ι n r Q) : PostG RA T W σ F' ι' n' r Q := by
  cases r with
  | ok v s => exact fun F2 ι2 H2 x N2 h2 S R => p F2 ι2 H2 x (N.trans N2 h) (Nat.le_trans h h2) S R
  | er c fs s => exact fun F2 ι2 H2 cls d N2 h2 S R => p F2 ι2 H2 cls d (N.trans N2 h) (Nat.le_trans h h2) S R
  | no => exact p
theorem PostG.imp {r : R α} {Q Q' : β → Hp → Prop} (p : PostG RA T W σ F ι n r Q) (h : ∀ x H, Q x H → Q' x H) : PostG RA T W σ F ι n r Q' := by
  cases r with
  | ok v s => exact fun F2 ι2 H2 x N2 h2 S R => h _ _ (p F2 ι2 H2 x N2 h2 S R)
  | er c fs s => exact p
  | no => exact p
/-- behind the first part -/
structure Mid (RA : Hp → (Nat → Addr) → Nat → α → β → Prop) (T : Tb) (F : Hp) (ι : Nat → Addr) (n : Nat) (H1 : Hp) (F1 : Hp) (ι1 : Nat → Addr) (v : α) (x : β) (st1 : Store) : Prop where
  nx : Next F ι n F1 ι1
  le : n ≤ st1.length
  sim : Sim T F1 ι1 st1 H1
  rel : RA F1 ι1 st1.length v x
theorem PostG.bind {r : R α} {g : α → Store → R γ} {Q : δ → Hp → Prop} (p : PostG RB T W σ F ι n (r.bind g) Q) :
    PostG RA T W σ F ι n r (fun x H1 => ∃ F1 ι1 v st1, Mid RA T F ι n H1 F1 ι1 v x st1 ∧ PostG RB T W σ F1 ι1 st1.length (g v st1) Q) := by
  cases r with
  | ok v s => exact fun F2 ι2 H2 x N2 h2 S R => ⟨F2, ι2, v, s, ⟨N2, h2, S, R⟩, PostG.up N2 h2 (fun _ _ _ _ => trivial) p⟩
  | er c fs s => exact p
  | no => exact p
/-- an evaluation as a reading -/
def tEvG (RA : Hp → (Nat → Addr) → Nat → α → β → Prop) (T : Tb) (W : L2.WX) (f : Env → Store → R α) : L2.St → Hp → (β → Hp → Prop) → Prop := fun σ H Q =>
  ∃ F ι env st, Sim T F ι st H ∧ EnvR T F ι st.length σ env ∧ PostG RA T W σ F ι st.length (f env st) Q
theorem tEvG.imp {f : Env → Store → R α} {Q Q' : β → Hp → Prop} (p : tEvG RA T W f σ H Q) (h : ∀ x H, Q x H → Q' x H) : tEvG RA T W f σ H Q' := by
  obtain ⟨F, ι, env, st, h1, h2, h3⟩ := p
  exact ⟨F, ι, env, st, h1, h2, h3.imp h⟩
/-- the state behind the first part -/
structure Mid2 (RA : Hp → (Nat → Addr) → Nat → α → β → Prop) (T : Tb) (σ : L2.St) (H1 : Hp) (F1 : Hp) (ι1 : Nat → Addr) (env : Env) (v : α) (x : β) (st1 : Store) : Prop where
  sim : Sim T F1 ι1 st1 H1
  env : EnvR T F1 ι1 st1.length σ env
  rel : RA F1 ι1 st1.length v x
theorem ev_bind {fa : Env → Store → R α} {g : Env → α → Store → R γ} {Q : δ → Hp → Prop} (p : tEvG RB T W (fun env st => (fa env st).bind (g env)) σ H Q) :
    tEvG RA T W fa σ H (fun x H1 => ∃ F1 ι1 env v st1, Mid2 RA T σ H1 F1 ι1 env v x st1 ∧ PostG RB T W σ F1 ι1 st1.length (g env v st1) Q) := by
  obtain ⟨F, ι, env, st, h1, h2, h3⟩ := p
  refine ⟨F, ι, env, st, h1, h2, (PostG.bind (RA := RA) h3).imp fun x H1 ⟨F1, ι1, v, st1, M, q⟩ => ⟨F1, ι1, env, v, st1, ⟨M.sim, h2.up M.nx M.le, M.rel⟩, q⟩⟩
/-- at once -/
theorem ev_go {f : Env → Store → R α} {Q : β → Hp → Prop} {env : Env} (S : Sim T F ι st H) (E : EnvR T F ι st.length σ env) (p : PostG RA T W σ F ι st.length (f env st) Q) : tEvG RA T W f σ H Q := ⟨F, ι, env, st, S, E, p⟩
/-- the answer is here -/
theorem PostG.now {v : α} {x : β} {Q : β → Hp → Prop} (p : PostG RA T W σ F ι n (.ok v st) Q) (N : Next F ι n F' ι') (h : n ≤ st.length) (S : Sim T F' ι' st H') (r : RA F' ι' st.length v x) : Q x H' := p F' ι' H' x N h S r
end
/-- relations of answers -/
abbrev RV (T : Tb) : Hp → (Nat → Addr) → Nat → Val → V → Prop := fun F ι n v x => VRel T F ι n v x
abbrev RL (T : Tb) : Hp → (Nat → Addr) → Nat → List Val → List V → Prop := fun F ι n v x => VRelL T F ι n v x
abbrev RE {α : Type} : Hp → (Nat → Addr) → Nat → α → α → Prop := fun _ _ _ v x => v = x
abbrev DE (X : Cx) (T : Tb) (W : L2.WX) (e : Expr) (f : Env → Store → R Val) : Prop := PE X e (tEvG (RV T) T W f)
abbrev DA (X : Cx) (T : Tb) (W : L2.WX) (es : List Expr) (f : Env → Store → R (List Val)) : Prop := PA X es (tEvG (RL T) T W f)
abbrev DT (X : Cx) (T : Tb) (W : L2.WX) (e : Expr) (f : Env → Store → R Bool) : Prop := PT X e (tEvG RE T W f)
theorem pe_imp {X : Cx} {e : Expr} {t t' : TE} (h : PE X e t) (i : ∀ σ H Q, t' σ H Q → t σ H Q) : PE X e t' := ⟨fun pins s σ H Q I q => h.run pins s σ H Q I (i _ _ _ q)⟩
theorem pa_imp {X : Cx} {e : List Expr} {t t' : TA} (h : PA X e t) (i : ∀ σ H Q, t' σ H Q → t σ H Q) : PA X e t' := ⟨fun pos pins s σ H Q I q => h.run pos pins s σ H Q I (i _ _ _ q)⟩
theorem pt_imp {X : Cx} {e : Expr} {t t' : TT} (h : PT X e t) (i : ∀ σ H Q, t' σ H Q → t σ H Q) : PT X e t' := ⟨fun pins s σ H Q I q => h.run pins s σ H Q I (i _ _ _ q)⟩
theorem pw_imp {X : Cx} {e : Expr} {t t' : TT} (h : PW X e t) (i : ∀ σ H Q, t' σ H Q → t σ H Q) : PW X e t' := ⟨fun whole pins s σ H Q I q => h.run whole pins s σ H Q I (i _ _ _ q)⟩
theorem ps_imp {X : Cx} {e : Stmt} {t t' : TS} (h : PS X e t) (i : ∀ D σ H, t' D σ H → t D σ H) : PS X e t' := ⟨fun pins s σ H D I q => h.run pins s σ H D I (i _ _ _ q)⟩
theorem pss_imp {X : Cx} {e : List Stmt} {t t' : TS} (h : PSs X e t) (i : ∀ D σ H, t' D σ H → t D σ H) : PSs X e t' := ⟨fun pins s σ H D I q => h.run pins s σ H D I (i _ _ _ q)⟩
theorem opr_imp {X : Cx} {f : Value → Value → Sem Value} {r r' : R2} (h : OpR X f r) (i : ∀ x y H Q, r' x y H Q → r x y H Q) : OpR X f r' := fun pins s σ H x y v u Q I rx ry q => h pins s σ H x y v u Q I rx ry (i _ _ _ _ q)
/-- a rule by cases of what is asked -/
theorem opr_by {X : Cx} {f : Value → Value → Sem Value} {r' : R2} (h : ∀ x y H Q, r' x y H Q → ∃ r, OpR X f r ∧ r x y H Q) : OpR X f r' := fun pins s σ H x y v u Q I rx ry q => by
  obtain ⟨r, h1, h2⟩ := h x y H Q q
  exact h1 pins s σ H x y v u Q I rx ry h2
theorem pe_by {X : Cx} {e : Expr} {t' : TE} (h : ∀ σ H Q, t' σ H Q → ∃ t, PE X e t ∧ t σ H Q) : PE X e t' := ⟨fun pins s σ H Q I q => by
  obtain ⟨t, h1, h2⟩ := h σ H Q q
  exact h1.run pins s σ H Q I h2⟩
theorem callr_by {X : Cx} {f : Value} {r' : List V → Hp → VK → Prop} (h : ∀ vs H Q, r' vs H Q → ∃ r, CallR X f r ∧ r vs H Q) : CallR X f r' := fun pins s σ H vs us Q I rv q => by
  obtain ⟨r, h1, h2⟩ := h vs H Q q
  exact h1 pins s σ H vs us Q I rv h2
end Vm
end

section
/-! V3: operators and comparisons on values. -/
namespace Vm
open PySem L2 PySem.Spec PyProof.Rows

inductive SeenP (K : PySem.W.Frag) (F H : Hp) : V → PyData → Prop
  | dat {x : V} {d : PyData} : Dat K F x d → SeenP K F H x d
  | lst {a : Addr} {xs : List V} {ds : List PyData} : H a = some (.lst xs) → DatL K F xs ds → SeenP K F H (.ref a) (.list ds)
  | dk {a : Addr} {kvs : List (Key × V)} {es : List (PyData × PyData)} : H a = some (.dK kvs) → DatK K F kvs es → SeenP K F H (.ref a) (.dict es)
  | dt {a : Addr} {kvs : List (List Key × V)} {es : List (PyData × PyData)} : H a = some (.dT kvs) → DatT K F kvs es → SeenP K F H (.ref a) (.dict es)
section
variable {T : Tb} {K : PySem.W.Frag} {F F' H H' : Hp} {ι : Nat → Addr} {n : Nat} {st : Store} {x y z : V} {a b c : Val} {d e : PyData}
theorem SeenP.list {ds : List PyData} (s : Sub F H) (h : SeenP K F H x (.list ds)) : ∃ a xs, x = .ref a ∧ Rd H a (.lst xs) ∧ DatL K F xs ds := by
  cases h with
  | dat h => cases h with | lst h1 h2 => exact ⟨_, _, rfl, s.rd h1, h2⟩
  | lst h1 h2 => exact ⟨_, _, rfl, .inl h1, h2⟩
theorem SeenP.tup {ds : List PyData} (s : Sub F H) (h : SeenP K F H x (.tuple ds)) : ∃ a xs, x = .ref a ∧ H a = some (.tup xs) ∧ F a = some (.tup xs) ∧ DatL K F xs ds := by
  cases h with
  | dat h => cases h with | tup h1 h2 => exact ⟨_, _, rfl, s.tup h1, h1, h2⟩
theorem SeenP.int {i : Int} (h : SeenP K F H x (.int i)) : x = .int i := by
  cases h with
  | dat h => cases h; rfl
theorem SeenP.bl {i : Bool} (h : SeenP K F H x (.bool i)) : x = .bl i := by
  cases h with
  | dat h => cases h; rfl
theorem SeenP.str {i : Str} (h : SeenP K F H x (.str i)) : x = .str i := by
  cases h with
  | dat h => cases h; rfl
theorem SeenP.non (h : SeenP K F H x .none) : x = .non := by
  cases h with
  | dat h => cases h; rfl
theorem SeenP.dict {es : List (PyData × PyData)} (s : Sub F H) (h : SeenP K F H x (.dict es)) : ∃ a, x = .ref a ∧ ((∃ kvs, Rd H a (.dK kvs) ∧ DatK K F kvs es) ∨ ∃ kvs, Rd H a (.dT kvs) ∧ DatT K F kvs es) := by
  cases h with
  | dat h =>
    cases h with
    | dik h1 h2 => exact ⟨_, rfl, .inl ⟨_, s.rd h1, h2⟩⟩
    | dit h1 h2 => exact ⟨_, rfl, .inr ⟨_, s.rd h1, h2⟩⟩
  | dk h1 h2 => exact ⟨_, rfl, .inl ⟨_, .inl h1, h2⟩⟩
  | dt h1 h2 => exact ⟨_, rfl, .inr ⟨_, .inl h1, h2⟩⟩
theorem SeenP.up (s : Sub F H) (h : SeenP K F H x d) : Dat K H x d := by
  cases h with
  | dat h => exact h.up s
  | lst h1 h2 => exact .lst (.inl h1) (h2.up s)
  | dk h1 h2 => exact .dik (.inl h1) (DatK.mono s _ _ h2)
  | dt h1 h2 => exact .dit (.inl h1) (DatT.mono s _ _ h2)
theorem see_seen (S : Sim T F ι st H) (r : VRel T F ι st.length a x) (e : see st a = .p d) : SeenP T.K F H x d := by
  cases a with
  | p d' =>
    cases e
    cases r with
    | p r => exact .dat r
  | r k =>
    cases r with
    | r hk =>
      have hc := S.cel k st[k] (by simp [hk])
      have e' : (match st[k]? with | some c => (match seeC c with | some d => Val.p d | none => Val.r k) | none => Val.r k) = .p d := e
      have hk' : st[k]? = some st[k] := by simp [hk]
      rw [hk'] at e'
      generalize st[k] = c at hc e'
      cases c with
      | pl ds =>
        obtain ⟨_, xs, h1, h2⟩ := hc
        cases e'
        exact .lst h1 h2
      | pd es =>
        cases e'
        obtain ⟨_, ⟨kvs, h1, h2⟩ | ⟨kvs, h1, h2⟩⟩ := hc
        · exact .dk h1 h2
        · exact .dt h1 h2
      | fz d' =>
        cases e'
        exact .dat hc.2
      | lk c => exact hc.elim
      | ml _ => cases e'
      | md _ => cases e'
      | ob _ _ => cases e'
  | t _ => cases e
  | l _ => cases e
  | x _ _ => cases e
/-- what is not read through stands as it is -/
theorem see_not (e : ∀ d, see st a ≠ .p d) : see st a = a := by
  cases a with
  | r k =>
    cases h : st[k]? with
    | none => simp [see, h]
    | some c =>
      cases q : seeC c with
      | none => simp [see, h, q]
      | some d => exact absurd (by simp [see, h, q]) (e d)
  | _ => rfl
end

/-- the answer of an operation: frozen things may have come -/
def Ans (T : Tb) (F H : Hp) (ι : Nat → Addr) (n : Nat) (d : Val) (Q : VK) : Prop := ∀ F' H' z, FX F H F' H' → VRel T F' ι n d z → Q z H'
section
variable {T : Tb} {W : L2.WX} {σ : L2.St} {K : PySem.W.Frag} {F F' H H' : Hp} {ι : Nat → Addr} {n : Nat} {st : Store} {x y z : V} {a b c : Val} {d e : PyData} {Q : VK}
theorem of_ans {o : Option Val} (S : Sim T F ι st H) (p : PostG (RV T) T W σ F ι st.length (R.of o st) Q) : ∃ d, o = some d ∧ Ans T F H ι st.length d Q := by
  cases o with
  | none => exact p.elim
  | some d => exact ⟨d, rfl, fun F' H' z x r => p F' ι H' z x.next (Nat.le_refl _) (S.fx x) r⟩
theorem ok_ans {v : Val} (S : Sim T F ι st H) (p : PostG (RV T) T W σ F ι st.length (.ok v st) Q) : Ans T F H ι st.length v Q := fun F' H' z x r => p F' ι H' z x.next (Nat.le_refl _) (S.fx x) r
theorem Ans.here {v : Val} (h : Ans T F H ι n v Q) (r : VRel T F ι n v z) : Q z H := h F H z (FX.refl _ _) r
theorem Ans.dat {d : PyData} (h : Ans T F H ι n (.p d) Q) (r : Dat T.K F z d) : Q z H := h.here (.p r)
theorem Ans.int {i : Int} (h : Ans T F H ι n (.p (.int i)) Q) : Q (.int i) H := h.dat (.int i)
theorem Ans.str {i : Str} (h : Ans T F H ι n (.p (.str i)) Q) : Q (.str i) H := h.dat (.str i)
theorem Ans.bl {i : Bool} (h : Ans T F H ι n (.p (.bool i)) Q) : Q (.bl i) H := h.dat (.bl i)
theorem Ans.non (h : Ans T F H ι n (.p .none) Q) : Q .non H := h.dat .non
/-- a new list of data -/
theorem Ans.lst {ds : List PyData} {xs : List V} (h : Ans T F H ι n (.p (.list ds)) Q) (s : Sub F H) (r : DatL T.K F xs ds) : ∀ p, H p = none → Q (.ref p) (upd H p (.lst xs)) := fun p hp =>
  h _ _ _ (FX.one hp s) (.p (.lst (.inl upd_same) (r.up (FX.one (o := .lst xs) hp s).subF)))
theorem Ans.tup {ds : List PyData} {xs : List V} (h : Ans T F H ι n (.p (.tuple ds)) Q) (s : Sub F H) (r : DatL T.K F xs ds) : ∀ p, H p = none → Q (.ref p) (upd H p (.tup xs)) := fun p hp =>
  h _ _ _ (FX.one hp s) (.p (.tup upd_same (r.up (FX.one (o := .tup xs) hp s).subF)))
theorem mkL_rel {vs : List Val} {xs : List V} {p : Addr} (h : F p = some (.lst xs)) (r : VRelL T F ι n vs xs) : VRel T F ι n (mkL vs) (.ref p) := by
  unfold mkL
  cases q : unPs vs with
  | some ds => exact .p (.lst (.inl h) (r.pure q))
  | none => exact .l h r
theorem mkT_rel {vs : List Val} {xs : List V} {p : Addr} (h : F p = some (.tup xs)) (r : VRelL T F ι n vs xs) : VRel T F ι n (mkT vs) (.ref p) := by
  unfold mkT
  cases q : unPs vs with
  | some ds => exact .p (.tup h (r.pure q))
  | none => exact .t h r
/-- a new list, tuple of anything -/
theorem Ans.mkL {vs : List Val} {xs : List V} (h : Ans T F H ι n (mkL vs) Q) (s : Sub F H) (r : VRelL T F ι n vs xs) : ∀ p, H p = none → Q (.ref p) (upd H p (.lst xs)) := fun p hp =>
  h _ _ _ (FX.one hp s) (mkL_rel upd_same (r.up (FX.one (o := .lst xs) hp s).next (Nat.le_refl _)))
theorem Ans.mkT {vs : List Val} {xs : List V} (h : Ans T F H ι n (mkT vs) Q) (s : Sub F H) (r : VRelL T F ι n vs xs) : ∀ p, H p = none → Q (.ref p) (upd H p (.tup xs)) := fun p hp =>
  h _ _ _ (FX.one hp s) (mkT_rel upd_same (r.up (FX.one (o := .tup xs) hp s).next (Nat.le_refl _)))
/-- a list of any items, read now -/
theorem asL_seen {vs : List Val} (S : Sim T F ι st H) (r : VRel T F ι st.length a x) (e : asL (see st a) = some vs) : ∃ p xs, x = .ref p ∧ Rd H p (.lst xs) ∧ VRelL T F ι st.length vs xs := by
  by_cases q : ∃ d, see st a = .p d
  · obtain ⟨d, q⟩ := q
    have h := see_seen S r q
    rw [q] at e
    cases d with
    | list ds =>
      cases e
      obtain ⟨p, xs, h1, h2, h3⟩ := h.list S.sub
      exact ⟨p, xs, h1, h2, .ofDat h3⟩
    | _ => cases e
  · have q2 := see_not (fun d hd => q ⟨d, hd⟩)
    rw [q2] at e
    cases a with
    | l ws =>
      cases e
      cases r with
      | l h1 h2 => exact ⟨_, _, rfl, S.sub.rd (.inl h1), h2⟩
    | p d => exact absurd ⟨d, rfl⟩ q
    | _ => cases e
end

theorem SZ_eq : SZ = sizeLine := by rw [sizeLine_eq]; rfl
section
variable {X : Cx} {pins : List (Addr × Obj)} {σ : L2.St} {H : Hp} {s : Shared} {l : Addr} {xs : List V}
theorem lstR (I : Inv X pins σ H s) (h : Rd H l (.lst xs)) : xs.length ≤ sizeLine ∧ ∃ (its : List Value) (n : Nat), Vals xs its ∧ xs.length = its.length ∧ s.heap.get? l = some { cls := .type "list", data := .seq its.toArray n } := by
  obtain ⟨z, its, n, r, e⟩ := h.ok I.hok
  exact ⟨z, its, n, r, r.length, e⟩
def rCatR : R2 := fun x y H Q => ∃ l b xs zs, x = .ref l ∧ y = .ref b ∧ Rd H l (.lst xs) ∧ Rd H b (.lst zs) ∧ xs.length + zs.length ≤ sizeLine ∧ ∀ p, H p = none → Q (.ref p) (upd H p (.lst (xs ++ zs)))
theorem op_catR : OpR X (binaryOp .Add) rCatR := by
  intro pins s σ H x y v u Q I rx ry h
  obtain ⟨l, b, xs, zs, rfl, rfl, hH, hB, hz, q⟩ := h
  cases rx
  cases ry
  obtain ⟨z, its, n, r, hl, e⟩ := lstR I hH
  obtain ⟨z2, its2, n2, r2, hl2, e2⟩ := lstR I hB
  refine PySem.P.add_list e e2 ?_ (by rw [List.size_toArray, List.size_toArray]; omega)
  have ea : its.toArray ++ its2.toArray = (its ++ its2).toArray := by simp
  rw [ea]
  exact ⟨.ref _, _, I.lnew (t' := s.toks) (r.append r2) (by rw [List.length_append]; omega), rfl, q _ I.fresh⟩
theorem op_repR : OpR X (binaryOp .Mult) (fun x y H Q => ∃ l k xs, x = .ref l ∧ y = .int k ∧ Rd H l (.lst xs) ∧ -(2 ^ 63) ≤ k ∧ k < 2 ^ 63 ∧ xs.length * k.toNat ≤ sizeLine ∧
    ∀ p, H p = none → Q (.ref p) (upd H p (.lst (List.replicate k.toNat xs).flatten))) := by
  intro pins s σ H x y v u Q I rx ry h
  obtain ⟨l, k, xs, rfl, rfl, hH, h1, h2, hz, q⟩ := h
  cases rx
  obtain ⟨t, rfl⟩ := ry
  obtain ⟨z, its, n, r, hl, e⟩ := lstR I hH
  have hlen : its.toArray.size * k.toNat ≤ sizeLine := by rw [List.size_toArray, ← hl]; exact hz
  have hcap : ¬ its.toArray.size * k.toNat > (2 ^ 63 - 1) / 8 := by
    have : (sizeLine : Nat) ≤ (2 ^ 63 - 1) / 8 := by decide
    omega
  have hfit : ¬ (!Builtin.List.listFitsIndex k) = true := by
    rw [fitsIndex_both h1 h2]
    exact Bool.false_ne_true
  have hlong : ¬ Builtin.List.listTooLong (its.toArray.size * k.toNat) = true := by
    rw [notLongL hlen]
    exact Bool.false_ne_true
  have hnew : List.foldl (fun x1 x2 => x1 ++ x2) #[] (List.replicate (if its.toArray.isEmpty = true then 0 else k.toNat) its.toArray) = (List.replicate k.toNat its).flatten.toArray := by
    have f0 : ∀ m : Nat, List.foldl (fun x1 x2 => x1 ++ x2) #[] (List.replicate m its.toArray) = (List.replicate m its).flatten.toArray := fun m => by
      have := foldl_rep its m []
      rw [List.nil_append] at this
      exact this
    rw [f0]
    cases its with
    | nil => simp
    | cons a r' => rw [if_neg (by simp)]
  refine wpAny_binaryOp_repeat_ref (T := "list") (U := "int") (by decide) ⟨_, e, rfl⟩ (fun s' => typeIs_int s' k t) noFill_list_mul F.fills_int_mul F.slot_int_rmul repeat_list F.slot_int_index.lookup
    (call_meets F.slot_int_rmul (typeIs_int s k t) F.entry_int_rmul (F.args_int_rmul_2 _ _) (int___rmul___int_list k t l its.toArray n)
      ⟨e, rfl, ⟨_, e, rfl⟩, call_meets F.slot_list_mul ⟨_, e, rfl⟩ F.entry_list_mul (F.args_list_mul_2 _ _) (AutoListH.list___mul___list_int_3 l its.toArray n k t hfit hcap hlong) ⟨e, ?_⟩⟩)
  rw [hnew]
  exact ⟨.ref _, _, I.lnew (t' := s.toks) (r.rep k.toNat) (by rw [PyProof.Rows.lm_len_rep_flat, Nat.mul_comm]; exact hz), rfl, q _ I.fresh⟩
theorem op_mulS : OpR X (binaryOp .Mult) (fun x y H Q => ∃ z k, x = .str z ∧ y = .int k ∧ 0 ≤ k ∧ k < 2 ^ 38 ∧ z.length * k.toNat ≤ sizeLine ∧ z.length < 2 ^ 24 ∧ Q (.str ⟨(List.replicate k.toNat z.cps.toList).flatten.toArray⟩) H) := by
  intro pins s σ H x y v u Q I rx ry h
  obtain ⟨z, k, rfl, rfl, h0, h2, hz, hz2, q⟩ := h
  obtain ⟨t, rfl⟩ := rx
  obtain ⟨t', rfl⟩ := ry
  have hs : sizeLine = 16777216 := sizeLine_eq
  have hfold : ∀ (m : Nat) (acc : List Nat), List.foldl (fun x1 x2 => x1 ++ x2) acc.toArray (List.replicate m z.cps) = (acc ++ (List.replicate m z.cps.toList).flatten).toArray := by
    intro m
    induction m with
    | zero => intro acc; simp
    | succ m ih =>
      intro acc
      rw [List.replicate_succ, List.foldl_cons, List.replicate_succ, List.flatten_cons]
      have e : acc.toArray ++ z.cps = (acc ++ z.cps.toList).toArray := by
        cases z with | mk c => cases c; simp
      rw [e, ih]
      simp
  refine PySem.P.mul_str (by
    rw [decide_eq_false (show ¬ k < -(2 ^ 63 : Int) by omega), decide_eq_false (show ¬ k ≥ 2 ^ 63 by omega)]; rfl) (fun hk _ => ?_) (fun hk _ => ?_) ?_
  · have h5 : (33554431 : Int) ≤ (2 ^ 63 - 1) / k := by
      rw [Int.le_ediv_iff_mul_le (by omega)]
      omega
    omega
  · show decide (_ > sizeLine) = false
    exact decide_eq_false (by omega)
  · have emp : (⟨(List.replicate k.toNat z.cps.toList).flatten.toArray⟩ : Str) = ⟨(List.replicate k.toNat z.cps).foldl (· ++ ·) #[]⟩ := by
      have := hfold k.toNat []
      rw [List.nil_append] at this
      show Str.mk _ = Str.mk _
      exact congrArg Str.mk this.symm
    rw [emp] at q
    have fin : ∀ (zz : Str) (tk : Nat) (tt : Tok), Q (.str zz) H → EP X pins σ Q (.str zz tt) { s with toks := tk } := fun zz tk tt q => ⟨.str zz, H, I.tok _, ⟨_, rfl⟩, q⟩
    by_cases c1 : k < 1
    · rw [if_pos c1]
      have e : k.toNat = 0 := by omega
      rw [e] at q
      refine ⟨by decide, ?_⟩
      exact fin _ _ _ q
    · rw [if_neg c1]
      by_cases c2 : (k == 1 || z.length == 0) = true
      · rw [if_pos c2]
        have e2 : (⟨(List.replicate k.toNat z.cps).foldl (· ++ ·) #[]⟩ : Str) = z := by
          rw [← emp]
          simp only [Bool.or_eq_true, beq_iff_eq] at c2
          rcases c2 with rfl | c2
          · cases z; simp
          · have hz0 : z.cps = #[] := Array.eq_empty_of_size_eq_zero c2
            cases z with
            | mk c =>
              have hz0 : c = #[] := hz0
              subst hz0
              simp
        rw [e2] at q
        exact ⟨.str z, H, I, ⟨_, rfl⟩, q⟩
      · rw [if_neg c2]
        refine ⟨?_, fin _ _ _ q⟩
        have e3 : ((List.replicate k.toNat z.cps).foldl (· ++ ·) #[] : Array Nat).size = k.toNat * z.length := by
          have := congrArg (fun s : Str => s.cps.size) emp
          simp only at this
          rw [← this, List.size_toArray, PyProof.Rows.lm_len_rep_flat]
          rfl
        show Str.length _ ≤ sizeLine
        show Array.size _ ≤ sizeLine
        rw [e3, Nat.mul_comm]
        exact hz
end
end Vm
end

section
/-! V4: operators and comparisons, as the evaluator has them. -/
namespace Vm
open PySem L2 PySem.Spec PyProof.Rows

def opB : BinO → Operator
  | .add => .Add
  | .sub => .Sub
  | .mul => .Mult
  | .fdiv => .FloorDiv
  | .mod => .Mod
  | .pow => .Pow
def opC : CmpO → CmpOp
  | .eq => .Eq
  | .ne => .NotEq
  | .lt => .Lt
  | .le => .LtE
  | .gt => .Gt
  | .ge => .GtE
  | .is => .Is
  | .isNot => .IsNot
  | .isin => .In
  | .notin => .NotIn
def rBin (T : Tb) (o : BinO) : R2 := fun x y H Q => ∃ F ι st a b d, Sim T F ι st H ∧ VRel T F ι st.length a x ∧ VRel T F ι st.length b y ∧ binV o (see st a) (see st b) = some d ∧ Ans T F H ι st.length d Q
section
variable {X : Cx} {T : Tb} {K : PySem.W.Frag} {F H : Hp} {ι : Nat → Addr} {st : Store} {x y : V} {a b : Val} {Q : VK}
theorem bin_data {o : BinO} {dx dy d : PyData} (s : Sub F H) (h1 : SeenP T.K F H x dx) (h2 : SeenP T.K F H y dy) (e : binD o dx dy = some d) (A : Ans T F H ι st.length (.p d) Q) (hK : X.K = T.K) :
    ∃ r, OpR X (binaryOp (opB o)) r ∧ r x y H Q := by
  unfold binD at e
  split at e
  · cases e
    cases h1.int; cases h2.int
    exact ⟨_, op_add, _, _, rfl, rfl, A.int⟩
  · split at e
    · cases e
      cases h1.str; cases h2.str
      rename_i hz
      exact ⟨_, op_add_str, _, _, rfl, rfl, by rw [← SZ_eq]; exact hz, A.str⟩
    · cases e
  · split at e
    · cases e
      rename_i hz
      obtain ⟨p, xs, rfl, r1, l1⟩ := h1.list s
      obtain ⟨p', xs', rfl, r2, l2⟩ := h2.list s
      exact ⟨_, op_catR, p, p', xs, xs', rfl, rfl, r1, r2, by rw [l1.length, l2.length, ← SZ_eq]; exact hz, A.lst s (l1.append l2)⟩
    · cases e
  · split at e
    · cases e
      rename_i hz
      obtain ⟨p, xs, rfl, r1, q1, l1⟩ := h1.tup s
      obtain ⟨p', xs', rfl, r2, q2, l2⟩ := h2.tup s
      refine ⟨_, op_catA, p, p', xs, xs', rfl, rfl, SqT.of r1, SqT.of r2, by rw [l1.length, l2.length, ← SZ_eq]; exact hz, fun z => ?_, fun _ z => ?_, fun _ _ => A.tup s (l1.append l2)⟩
      · subst z
        cases l1
        exact A.dat (.tup q2 l2)
      · subst z
        cases l2
        rw [List.append_nil] at A
        exact A.dat (.tup q1 l1)
    · cases e
  · cases e
    cases h1.int; cases h2.int
    exact ⟨_, op_sub, _, _, rfl, rfl, A.int⟩
  · split at e
    · cases e
      cases h1.int; cases h2.int
      rename_i hz
      exact ⟨_, op_mul, _, _, rfl, rfl, hz, A.int⟩
    · cases e
  · split at e
    · cases e
      rename_i hz
      cases h2.int
      obtain ⟨p, xs, rfl, r1, l1⟩ := h1.list s
      refine ⟨_, op_repR, p, _, xs, rfl, rfl, r1, hz.1, hz.2.1, by rw [l1.length, ← SZ_eq]; exact hz.2.2, A.lst s ?_⟩
      have rep : ∀ m : Nat, DatL T.K F (List.replicate m xs).flatten (List.replicate m _).flatten := fun m => by
        induction m with
        | zero => exact .nil
        | succ m ih =>
          rw [List.replicate_succ, List.replicate_succ, List.flatten_cons, List.flatten_cons]
          exact l1.append ih
      exact rep _
    · cases e
  · split at e
    · cases e
      rename_i hz
      cases h1.str; cases h2.int
      exact ⟨_, op_mulS, _, _, rfl, rfl, hz.1, hz.2.1, by rw [← SZ_eq]; exact hz.2.2.1, hz.2.2.2, A.str⟩
    · cases e
  · split at e
    · cases e
      rename_i hz
      cases h1.int; cases h2.int
      exact ⟨_, op_fdiv, _, _, rfl, rfl, hz, A.int⟩
    · cases e
  · split at e
    · cases e
      rename_i hz
      cases h1.int; cases h2.int
      exact ⟨_, op_mod, _, _, rfl, rfl, hz, A.int⟩
    · cases e
  · split at e
    · cases e
      rename_i hz
      cases h1.int; cases h2.int
      exact ⟨_, op_pow, _, _, rfl, rfl, hz, A.int⟩
    · cases e
  · cases e
theorem op_bin {o : BinO} (hK : X.K = T.K) : OpR X (binaryOp (opB o)) (rBin T o) := opr_by fun x y H Q h => by
  obtain ⟨F, ι, st, a, b, d, S, ra, rb, e, A⟩ := h
  unfold binV at e
  split at e
  · rename_i dx dy e1 e2
    cases q : binD o dx dy with
    | none => rw [q] at e; cases e
    | some dd =>
      rw [q] at e
      cases e
      exact bin_data S.sub (see_seen S ra e1) (see_seen S rb e2) q A hK
  · split at e
    · rename_i xs ys e1 e2
      split at e
      · cases e
        rename_i hz
        obtain ⟨p, us, rfl, r1, l1⟩ := asL_seen S ra e1
        obtain ⟨p', us', rfl, r2, l2⟩ := asL_seen S rb e2
        exact ⟨_, op_catR, p, p', us, us', rfl, rfl, r1, r2, by rw [← l1.length, ← l2.length, ← SZ_eq]; exact hz, A.mkL S.sub (l1.append l2)⟩
      · cases e
    · cases e
end

/-! ### comparisons -/
def rCmp (T : Tb) (o : CmpO) : R2 := fun x y H Q => ∃ F ι st a b d, Sim T F ι st H ∧ VRel T F ι st.length a x ∧ VRel T F ι st.length b y ∧ cmpV o (see st a) (see st b) = some d ∧ Q (.bl d) H
section
variable {X : Cx} {T : Tb} {K : PySem.W.Frag} {F H : Hp} {ι : Nat → Addr} {st : Store} {x y : V} {a b : Val} {Q : VK}
theorem flat2_eq {dx dy : PyData} (h1 : SeenP T.K F H x dx) (h2 : SeenP T.K F H y dy) (e : flat2 dx dy = true) : scal x y = true ∧ decide (x = y) = PyData.eqv dx dy := by
  unfold flat2 at e
  split at e
  · cases h1.non; cases h2.non; exact ⟨rfl, rfl⟩
  · cases h1.non; cases h2.int; exact ⟨rfl, rfl⟩
  · cases h1.int; cases h2.non; exact ⟨rfl, rfl⟩
  · cases h1.non; cases h2.bl; exact ⟨rfl, rfl⟩
  · cases h1.bl; cases h2.non; exact ⟨rfl, rfl⟩
  · cases h1.non; cases h2.str; exact ⟨rfl, rfl⟩
  · cases h1.str; cases h2.non; exact ⟨rfl, rfl⟩
  · cases h1.int; cases h2.int; exact ⟨rfl, dec_int⟩
  · cases h1.bl; cases h2.bl; exact ⟨rfl, dec_bl⟩
  · cases h1.str; cases h2.str; exact ⟨rfl, dec_str⟩
  · cases h1.int; cases h2.str; exact ⟨rfl, rfl⟩
  · cases h1.str; cases h2.int; exact ⟨rfl, rfl⟩
  · cases h1.bl; cases h2.str; exact ⟨rfl, rfl⟩
  · cases h1.str; cases h2.bl; exact ⟨rfl, rfl⟩
  · cases e
theorem can_of {d : PyData} (h : SeqAt.shaped d = true) : d.canLay0 = true := SeqAt.canLay_of_shaped h

theorem op_eqLenL (hu : X.A.units < cLine) : OpR X (compareOp .Eq) (fun x y H Q => ∃ a b xs zs, x = .ref a ∧ y = .ref b ∧ Rd H a (.lst xs) ∧ Rd H b (.lst zs) ∧ xs.length ≠ zs.length ∧ Q (.bl false) H) := by
  intro pins s σ H x y v u Q I rx ry h
  obtain ⟨a, b, xs, zs, rfl, rfl, h1, h2, hz, q⟩ := h
  cases rx
  cases ry
  obtain ⟨_, its, n, r, hl, e⟩ := lstR I h1
  obtain ⟨_, its2, n2, r2, hl2, e2⟩ := lstR I h2
  refine SeqAt.eq_list_lengthsAt (items := its.toArray) (items2 := its2.toArray) ⟨_, e, rfl, n, rfl⟩ ⟨_, e2, rfl, n2, rfl⟩ ?_ hu ⟨.bl false, H, I, rfl, q⟩
  simp only [List.size_toArray, bne_iff_ne, ne_eq]
  omega
theorem op_neLenL (hu : X.A.units < cLine) : OpR X (compareOp .NotEq) (fun x y H Q => ∃ a b xs zs, x = .ref a ∧ y = .ref b ∧ Rd H a (.lst xs) ∧ Rd H b (.lst zs) ∧ xs.length ≠ zs.length ∧ Q (.bl true) H) := by
  intro pins s σ H x y v u Q I rx ry h
  obtain ⟨a, b, xs, zs, rfl, rfl, h1, h2, hz, q⟩ := h
  cases rx
  cases ry
  obtain ⟨_, its, n, r, hl, e⟩ := lstR I h1
  obtain ⟨_, its2, n2, r2, hl2, e2⟩ := lstR I h2
  refine SeqAt.RcNeAt.lists_lengths (items := its.toArray) (items2 := its2.toArray) ⟨_, e, rfl, n, rfl⟩ ⟨_, e2, rfl, n2, rfl⟩ ?_ hu _ _ _ _ ⟨.bl true, H, I, rfl, q⟩
  simp only [List.size_toArray, bne_iff_ne, ne_eq]
  omega
theorem op_eqNilT (hu : X.A.units < cLine) : OpR X (compareOp .Eq) (fun x y H Q => ∃ a b xs zs, x = .ref a ∧ y = .ref b ∧ SqT X.K H a xs ∧ SqT X.K H b zs ∧ (xs = [] ∧ zs ≠ [] ∨ xs ≠ [] ∧ zs = []) ∧ Q (.bl false) H) := by
  intro pins s σ H x y v u Q I rx ry h
  obtain ⟨a, b, xs, zs, rfl, rfl, h1, h2, hz, q⟩ := h
  cases rx
  cases ry
  obtain ⟨its, r, e, _⟩ := I.tuple h1
  obtain ⟨its2, r2, e2, _⟩ := I.tuple h2
  have l1 := r.length
  have l2 := r2.length
  have hm : min its.toArray.size its2.toArray.size = 0 := by
    simp only [List.size_toArray]
    rcases hz with ⟨rfl, _⟩ | ⟨_, rfl⟩
    · have : its.length = 0 := by simpa using l1.symm
      omega
    · have : its2.length = 0 := by simpa using l2.symm
      omega
  have hne : (its.toArray.size == its2.toArray.size) = false := by
    simp only [List.size_toArray, beq_eq_false_iff_ne, ne_eq]
    rcases hz with ⟨rfl, hz⟩ | ⟨hz, rfl⟩
    · have : its.length = 0 := by simpa using l1.symm
      have := List.length_pos_iff.mpr hz
      omega
    · have : its2.length = 0 := by simpa using l2.symm
      have := List.length_pos_iff.mpr hz
      omega
  refine SeqAt.eq_tupleAt (items := its.toArray) (items2 := its2.toArray) (e := fun _ => true) e e2 hu (fun j j1 j2 => absurd j1 (by have := hm; omega)) ?_
  rw [hm, hne]
  exact ⟨.bl false, H, I, rfl, q⟩
theorem op_neNilT (hu : X.A.units < cLine) : OpR X (compareOp .NotEq) (fun x y H Q => ∃ a b xs zs, x = .ref a ∧ y = .ref b ∧ SqT X.K H a xs ∧ SqT X.K H b zs ∧ (xs = [] ∧ zs ≠ [] ∨ xs ≠ [] ∧ zs = []) ∧ Q (.bl true) H) := by
  intro pins s σ H x y v u Q I rx ry h
  obtain ⟨a, b, xs, zs, rfl, rfl, h1, h2, hz, q⟩ := h
  cases rx
  cases ry
  obtain ⟨its, r, e, _⟩ := I.tuple h1
  obtain ⟨its2, r2, e2, _⟩ := I.tuple h2
  have l1 := r.length
  have l2 := r2.length
  have hm : min its.toArray.size its2.toArray.size = 0 := by
    simp only [List.size_toArray]
    rcases hz with ⟨rfl, _⟩ | ⟨_, rfl⟩
    · have : its.length = 0 := by simpa using l1.symm
      omega
    · have : its2.length = 0 := by simpa using l2.symm
      omega
  have hne : (its.toArray.size == its2.toArray.size) = false := by
    simp only [List.size_toArray, beq_eq_false_iff_ne, ne_eq]
    rcases hz with ⟨rfl, hz⟩ | ⟨hz, rfl⟩
    · have : its.length = 0 := by simpa using l1.symm
      have := List.length_pos_iff.mpr hz
      omega
    · have : its2.length = 0 := by simpa using l2.symm
      have := List.length_pos_iff.mpr hz
      omega
  refine SeqAt.RcNeAt.tuples (items := its.toArray) (items2 := its2.toArray) (e := fun _ => true) e e2 hu (fun j j1 j2 => absurd j1 (by have := hm; omega)) _ _ _ _ ?_
  rw [hm, hne]
  exact ⟨.bl true, H, I, rfl, q⟩

/-- == and != of data -/
theorem eq_data {dx dy : PyData} {d : Bool} (s : Sub F H) (h1 : SeenP T.K F H x dx) (h2 : SeenP T.K F H y dy) (e : eqD dx dy = some d) (hK : X.K = T.K) (hu : X.A.units + 100 < cLine) :
    (∃ r, OpR X (compareOp .Eq) r ∧ ∀ Q : VK, Q (.bl d) H → r x y H Q) ∧ ∃ r, OpR X (compareOp .NotEq) r ∧ ∀ Q : VK, Q (.bl (!d)) H → r x y H Q := by
  unfold eqD at e
  split at e
  · cases e
    rename_i hf
    obtain ⟨k1, k2⟩ := flat2_eq h1 h2 hf
    rw [← k2]
    exact ⟨⟨_, op_eq, fun Q q => ⟨k1, q⟩⟩, ⟨_, op_ne, fun Q q => ⟨k1, q⟩⟩⟩
  · split at e
    · cases e
      rename_i hs
      have p1 := Dat.dp _ _ (can_of hs.1) (h1.up s)
      have p2 := Dat.dp _ _ (can_of hs.2) (h2.up s)
      rw [← hK] at p1 p2
      exact ⟨⟨_, op_eqD (by omega), fun Q q => ⟨_, _, p1, p2, hs.1, hs.2, q⟩⟩, ⟨_, op_neD (by omega), fun Q q => ⟨_, _, p1, p2, hs.1, hs.2, q⟩⟩⟩
    · split at e
      · cases e
        obtain ⟨p, xs, rfl, r1, _, l1⟩ := h1.tup s
        obtain ⟨p', xs', rfl, r2, _, l2⟩ := h2.tup s
        cases l1
        have hn : xs' ≠ [] := by rintro rfl; cases l2
        exact ⟨⟨_, op_eqNilT (by omega), fun Q q => ⟨_, _, _, _, rfl, rfl, SqT.of r1, SqT.of r2, .inl ⟨rfl, hn⟩, q⟩⟩, ⟨_, op_neNilT (by omega), fun Q q => ⟨_, _, _, _, rfl, rfl, SqT.of r1, SqT.of r2, .inl ⟨rfl, hn⟩, q⟩⟩⟩
      · cases e
        obtain ⟨p, xs, rfl, r1, _, l1⟩ := h1.tup s
        obtain ⟨p', xs', rfl, r2, _, l2⟩ := h2.tup s
        cases l2
        have hn : xs ≠ [] := by rintro rfl; cases l1
        exact ⟨⟨_, op_eqNilT (by omega), fun Q q => ⟨_, _, _, _, rfl, rfl, SqT.of r1, SqT.of r2, .inr ⟨hn, rfl⟩, q⟩⟩, ⟨_, op_neNilT (by omega), fun Q q => ⟨_, _, _, _, rfl, rfl, SqT.of r1, SqT.of r2, .inr ⟨hn, rfl⟩, q⟩⟩⟩
      · cases e
        obtain ⟨p, xs, rfl, r1, l1⟩ := h1.list s
        obtain ⟨p', xs', rfl, r2, l2⟩ := h2.list s
        have e1 := l1.length
        have e2 := l2.length
        have hn : xs.length ≠ xs'.length := by simp only [List.length_nil, List.length_cons] at e1 e2; omega
        exact ⟨⟨_, op_eqLenL (by omega), fun Q q => ⟨_, _, _, _, rfl, rfl, r1, r2, hn, q⟩⟩, ⟨_, op_neLenL (by omega), fun Q q => ⟨_, _, _, _, rfl, rfl, r1, r2, hn, q⟩⟩⟩
      · cases e
        obtain ⟨p, xs, rfl, r1, l1⟩ := h1.list s
        obtain ⟨p', xs', rfl, r2, l2⟩ := h2.list s
        have e1 := l1.length
        have e2 := l2.length
        have hn : xs.length ≠ xs'.length := by simp only [List.length_nil, List.length_cons] at e1 e2; omega
        exact ⟨⟨_, op_eqLenL (by omega), fun Q q => ⟨_, _, _, _, rfl, rfl, r1, r2, hn, q⟩⟩, ⟨_, op_neLenL (by omega), fun Q q => ⟨_, _, _, _, rfl, rfl, r1, r2, hn, q⟩⟩⟩
      · cases e

theorem flatV_of {dx : PyData} (h : SeenP T.K F H x dx) (f : flatD dx = true) : flatV x = true := by
  cases dx with
  | none => cases h.non; rfl
  | bool b => cases h.bl; rfl
  | int i => cases h.int; rfl
  | str z => cases h.str; rfl
  | _ => cases f
theorem flat_dat {dx : PyData} (h : Dat K F x dx) (f : flatD dx = true) : flatV x = true := by
  cases dx with
  | none => cases h; rfl
  | bool b => cases h; rfl
  | int i => cases h; rfl
  | str z => cases h; rfl
  | _ => cases f
theorem eqv_flat {dx dy : PyData} (h1 : Dat K F x dx) (h2 : Dat K F y dy) (f1 : flatD dx = true) (f2 : flatD dy = true) : eqV x y = PyData.eqv dx dy := by
  cases dx with
  | none =>
    cases h1
    cases dy with
    | none => cases h2; rfl
    | bool _ => cases h2; rfl
    | int _ => cases h2; rfl
    | str _ => cases h2; rfl
    | _ => cases f2
  | bool _ =>
    cases h1
    cases dy with
    | none => cases h2; rfl
    | bool _ => cases h2; rfl
    | int _ => cases h2; rfl
    | str _ => cases h2; rfl
    | _ => cases f2
  | int _ =>
    cases h1
    cases dy with
    | none => cases h2; rfl
    | bool _ => cases h2; rfl
    | int _ => cases h2; rfl
    | str _ => cases h2; rfl
    | _ => cases f2
  | str _ =>
    cases h1
    cases dy with
    | none => cases h2; rfl
    | bool _ => cases h2; rfl
    | int _ => cases h2; rfl
    | str _ => cases h2; rfl
    | _ => cases f2
  | _ => cases f1
theorem inV_of {dx : PyData} (h1 : Dat K F x dx) (f1 : flatD dx = true) : ∀ {xs : List V} {ds : List PyData}, DatL K F xs ds → ds.all flatD = true → xs.all flatV = true ∧ inV x xs = ds.any fun z => PyData.eqv z dx
  | _, _, .nil, _ => ⟨rfl, rfl⟩
  | _, _, .cons h2 h3, f => by
    rw [List.all_cons, Bool.and_eq_true] at f
    obtain ⟨k1, k2⟩ := inV_of h1 f1 h3 f.2
    refine ⟨?_, ?_⟩
    · rw [List.all_cons, flat_dat h2 f.1, k1]; rfl
    · rw [List.any_cons, ← k2, ← eqv_flat h2 h1 f.1 f1]
      rfl
theorem SeenP.flat {dx : PyData} (h : SeenP K F H x dx) (f : flatD dx = true) : Dat K F x dx := by
  cases h with
  | dat h => exact h
  | lst _ _ => cases f
  | dk _ _ => cases f
  | dt _ _ => cases f
theorem keyD_eqv : ∀ (k k' : Key), PyData.eqv (keyD k) (keyD k') = decide (k = k')
  | .inl a, .inl b => (key_ll a b).symm
  | .inr a, .inr b => by
    rw [key_rr]
    show (a == b) = decide (a = b)
    rfl
  | .inl a, .inr b => by rw [key_lr]; rfl
  | .inr a, .inl b => by rw [key_rl]; rfl
theorem keyD_eqvAll : ∀ (k k' : List Key), PyData.eqvAll (k.map keyD) (k'.map keyD) = decide (k = k')
  | [], [] => rfl
  | a :: k, [] => by simp [PyData.eqvAll]
  | [], b :: k' => by simp [PyData.eqvAll]
  | a :: k, b :: k' => by
    rw [List.map_cons, List.map_cons]
    show (PyData.eqv (keyD a) (keyD b) && PyData.eqvAll (k.map keyD) (k'.map keyD)) = _
    rw [keyD_eqv, keyD_eqvAll k k']
    by_cases h1 : a = b <;> by_cases h2 : k = k' <;> simp [h1, h2]
/-- a key as data is a key -/
theorem key1_of {d : PyData} (h : Dat K F x d) (k : isKey1 d = true) : ∃ q : Key, x = kV q ∧ d = keyD q := by
  cases d with
  | int i => cases h; exact ⟨.inl i, rfl, rfl⟩
  | str z => cases h; exact ⟨.inr z, rfl, rfl⟩
  | _ => cases k
theorem keys_of : ∀ {xs : List V} {ds : List PyData}, DatL K F xs ds → ds.all isKey1 = true → ∃ q : List Key, xs = q.map kV ∧ ds = q.map keyD
  | _, _, .nil, _ => ⟨[], rfl, rfl⟩
  | _, _, .cons h1 h2, k => by
    rw [List.all_cons, Bool.and_eq_true] at k
    obtain ⟨q, rfl, rfl⟩ := key1_of h1 k.1
    obtain ⟨qs, rfl, rfl⟩ := keys_of h2 k.2
    exact ⟨q :: qs, rfl, rfl⟩

/-- what a dict answers at a key -/
theorem DatK.any (k : Key) : ∀ {kvs : List (Key × V)} {es : List (PyData × PyData)}, DatK K F kvs es → (kvs.any fun q => decide (q.1 = k)) = es.any fun q => PyData.eqv q.1 (keyD k)
  | _, _, .nil => rfl
  | _, _, .cons _ h => by
    rw [List.any_cons, List.any_cons, DatK.any k h, keyD_eqv]
theorem DatT.any (k : List Key) : ∀ {kvs : List (List Key × V)} {es : List (PyData × PyData)}, DatT K F kvs es → (kvs.any fun q => decide (q.1 = k)) = es.any fun q => PyData.eqv q.1 (.tuple (k.map keyD))
  | _, _, .nil => rfl
  | _, _, .cons _ h => by
    rw [List.any_cons, List.any_cons, DatT.any k h]
    show _ = (PyData.eqvAll _ _ || _)
    rw [keyD_eqvAll]
theorem valV_isSome {κ : Type} [DecidableEq κ] (kvs : List (κ × V)) (k : κ) : (valV kvs k).isSome = kvs.any fun q => decide (q.1 = k) := (valV_any k kvs).symm
/-- a key of the other kind is not there -/
theorem DatK.anyT (k : List Key) : ∀ {kvs : List (Key × V)} {es : List (PyData × PyData)}, DatK K F kvs es → (es.any fun q => PyData.eqv q.1 (.tuple (k.map keyD))) = false
  | _, _, .nil => rfl
  | _, _, .cons (k := kk) _ h => by
    rw [List.any_cons, DatK.anyT k h]
    cases kk <;> rfl
theorem DatT.anyK (k : Key) : ∀ {kvs : List (List Key × V)} {es : List (PyData × PyData)}, DatT K F kvs es → (es.any fun q => PyData.eqv q.1 (keyD k)) = false
  | _, _, .nil => rfl
  | _, _, .cons (k := kk) _ h => by
    rw [List.any_cons, DatT.anyK k h]
    cases k <;> rfl
end
/-- an empty dict is asked by a key of the other kind -/
def DEmp (H : Hp) (a : Addr) (y : V) : Prop := (Rd H a (.dK []) ∧ ∃ (k : List Key) (b : Addr), y = .ref b ∧ H b = some (.tup (k.map kV))) ∨ (Rd H a (.dT []) ∧ ∃ k : Key, y = kV k)
section
variable {X : Cx} {pins : List (Addr × Obj)} {σ : L2.St} {H : Hp} {s : Shared} {a : Addr} {y v : V} {u : Value} {A : Around} {E : Value → Shared → Prop}
theorem emp_T (I : Inv X pins σ H s) (e : Rd H a (.dK [])) : (a == sysModules) = false ∧ s.heap.DictOfH (tupleKind (mixKind X.prog X.w)) a [] := by
  obtain ⟨z, hd, vs, rel, o, es, ep, h1, h2, h3, h4, h5, h6⟩ := dk_rd I.hok e
  cases rel
  have e0 : es.toList = [] := by
    cases q : es.toList with
    | nil => rfl
    | cons x r => rw [q] at h5; cases h5
  exact ⟨hd, o, es, ep, h1, h2, h3, by rw [e0]; rfl, fun x hx => (by cases hx), List.Pairwise.nil⟩
theorem emp_K (I : Inv X pins σ H s) (e : Rd H a (.dT [])) : (a == sysModules) = false ∧ s.heap.DictOf (mixKind X.prog X.w) a [] := by
  obtain ⟨z, hd, xs, rel, o, es, ep, h1, h2, h3, h4, h5, h6⟩ := dt_rd I.hok e
  cases rel
  have e0 : es = #[] := by
    cases es with
    | mk l => cases l with
      | nil => rfl
      | cons x r => simp at h4
  subst e0
  exact ⟨hd, o, #[], ep, h1, h2, h3, by intro x hx; simp at hx, .nil, List.Pairwise.nil⟩
end
/-- in, not in of a tuple of data of any depth -/
def rDTIn (K : PySem.W.Frag) (neg : Bool) : R2 := fun x y H Q => ∃ d ds, Dp K H x d ∧ Dp K H y (.tuple ds) ∧ SeqAt.shaped d = true ∧ SeqAt.shaped (.tuple ds) = true ∧ Q (.bl (if neg then !(ds.any fun z => PyData.eqv z d) else ds.any fun z => PyData.eqv z d)) H
theorem op_inDT {X : Cx} (hu : X.A.units + 65 < cLine) : OpR X (compareOp .In) (rDTIn X.K false) := by
  intro pins s σ H x y v u Q I rx ry ⟨d, ds, hd, he, sd, se, q⟩
  obtain ⟨bs, r2⟩ := Dp.reads I (.tuple ds) y u he ry
  obtain ⟨as, r1⟩ := Dp.reads I d x v hd rx
  exact SeqAt.in_tuple_reads r2 r1 (SeqAt.canLay_of_shaped se) (SeqAt.canLay_of_shaped sd) (room_in_shaped sd hu) ⟨.bl _, H, I, rfl, q⟩
theorem op_notInDT {X : Cx} (hu : X.A.units + 65 < cLine) : OpR X (compareOp .NotIn) (rDTIn X.K true) := by
  intro pins s σ H x y v u Q I rx ry ⟨d, ds, hd, he, sd, se, q⟩
  obtain ⟨bs, r2⟩ := Dp.reads I (.tuple ds) y u he ry
  obtain ⟨as, r1⟩ := Dp.reads I d x v hd rx
  exact SeqAt.notIn_tuple_reads r2 r1 (SeqAt.canLay_of_shaped se) (SeqAt.canLay_of_shaped sd) (room_in_shaped sd hu) ⟨.bl _, H, I, rfl, q⟩
/-- in, not in of a dict by values -/
def rDIn (neg : Bool) : R2 := fun y x H Q => ∃ a o, x = .ref a ∧ (DGet H a y o ∨ (DEmp H a y ∧ o = none)) ∧ Q (.bl (if neg then !o.isSome else o.isSome)) H
theorem op_dIn {X : Cx} (hu : X.A.units + 1 < cLine) : OpR X (compareOp .In) (rDIn false) := by
  intro pins s σ H y x u v Q I ry rx h
  obtain ⟨a, o, rfl, g, q⟩ := h
  cases rx
  rcases g with g | ⟨⟨e, k, b, rfl, eb⟩ | ⟨e, k, rfl⟩, rfl⟩
  · exact d_in hu I g ry fun s' I' => ⟨.bl _, H, I', rfl, q⟩
  · obtain ⟨hd, dd⟩ := emp_T I e
    cases ry
    exact wpAny_in_heap (tupleKind_room_in1 hu) (key_of I.hok eb) hd dd ⟨.bl _, H, I.tok _, rfl, q⟩
  · obtain ⟨hd, dd⟩ := emp_K I e
    exact wpAny_in_of (kV_is ry) hd dd.mapOf ⟨.bl _, H, I.tok _, rfl, q⟩
theorem op_dNotIn {X : Cx} (hu : X.A.units + 1 < cLine) : OpR X (compareOp .NotIn) (rDIn true) := by
  intro pins s σ H y x u v Q I ry rx h
  obtain ⟨a, o, rfl, g, q⟩ := h
  cases rx
  rcases g with g | ⟨⟨e, k, b, rfl, eb⟩ | ⟨e, k, rfl⟩, rfl⟩
  · exact d_notIn hu I g ry fun s' I' => ⟨.bl _, H, I', rfl, q⟩
  · obtain ⟨hd, dd⟩ := emp_T I e
    cases ry
    exact wpAny_notIn_heap (tupleKind_room_in1 hu) (key_of I.hok eb) hd dd ⟨.bl _, H, I.tok _, rfl, q⟩
  · obtain ⟨hd, dd⟩ := emp_K I e
    exact wpAny_notIn_of (kV_is ry) hd dd.mapOf ⟨.bl _, H, I.tok _, rfl, q⟩
section
variable {X : Cx} {T : Tb} {K : PySem.W.Frag} {F H : Hp} {ι : Nat → Addr} {st : Store} {x y : V} {a b : Val} {Q : VK}
theorem in_data {dx dy : PyData} {d : Bool} (s : Sub F H) (h1 : SeenP T.K F H x dx) (h2 : SeenP T.K F H y dy) (e : inD dx dy = some d) (hK : X.K = T.K) (hu : X.A.units + 100 < cLine) :
    (∃ r, OpR X (compareOp .In) r ∧ ∀ Q : VK, Q (.bl d) H → r x y H Q) ∧ ∃ r, OpR X (compareOp .NotIn) r ∧ ∀ Q : VK, Q (.bl (!d)) H → r x y H Q := by
  unfold inD at e
  split at e
  · split at e
    · cases e
      cases h1.str; cases h2.str
      exact ⟨⟨_, op_in_str, fun Q q => ⟨_, _, rfl, rfl, q⟩⟩, ⟨_, op_notIn_str, fun Q q => ⟨_, _, rfl, rfl, q⟩⟩⟩
    · cases e
  · split at e
    · cases e
      rename_i hs
      obtain ⟨p, xs, rfl, r2, l2⟩ := h2.list s
      rcases hs with ⟨f1, f2⟩ | ⟨s1, s2⟩
      · have dx1 := h1.flat f1
        obtain ⟨k1, k2⟩ := inV_of dx1 f1 l2 f2
        rw [← k2]
        exact ⟨⟨_, op_in_seq, fun Q q => ⟨p, xs, rfl, .inl (.inl r2), flat_dat dx1 f1, k1, q⟩⟩, ⟨_, op_notIn_seq, fun Q q => ⟨p, xs, rfl, .inl (.inl r2), flat_dat dx1 f1, k1, q⟩⟩⟩
      · have p1 := Dat.dp _ _ (can_of s1) (h1.up s)
        have p2 := Dat.dp _ _ (can_of s2) (h2.up s)
        rw [← hK] at p1 p2
        exact ⟨⟨_, op_inD (by omega), fun Q q => ⟨_, _, p1, p2, s1, s2, q⟩⟩, ⟨_, op_notInD (by omega), fun Q q => ⟨_, _, p1, p2, s1, s2, q⟩⟩⟩
    · cases e
  · split at e
    · cases e
      rename_i hs
      obtain ⟨f1, f2⟩ := hs
      obtain ⟨p, xs, rfl, r2, _, l2⟩ := h2.tup s
      have dx1 := h1.flat f1
      obtain ⟨k1, k2⟩ := inV_of dx1 f1 l2 f2
      rw [← k2]
      exact ⟨⟨_, op_in_seq, fun Q q => ⟨p, xs, rfl, .inr (SqT.of r2), flat_dat dx1 f1, k1, q⟩⟩, ⟨_, op_notIn_seq, fun Q q => ⟨p, xs, rfl, .inr (SqT.of r2), flat_dat dx1 f1, k1, q⟩⟩⟩
    · split at e
      · cases e
        rename_i hs
        have p1 := Dat.dp _ _ (can_of hs.1) (h1.up s)
        have p2 := Dat.dp _ _ (can_of hs.2) (h2.up s)
        rw [← hK] at p1 p2
        exact ⟨⟨_, op_inDT (by omega), fun Q q => ⟨_, _, p1, p2, hs.1, hs.2, q⟩⟩, ⟨_, op_notInDT (by omega), fun Q q => ⟨_, _, p1, p2, hs.1, hs.2, q⟩⟩⟩
      · cases e
  · rename_i kvs
    split at e
    · cases e
      rename_i hk
      obtain ⟨hk, hkind⟩ := hk
      obtain ⟨p, rfl, hd⟩ := h2.dict s
      have go : ∀ o, DGet H p x o ∨ (DEmp H p x ∧ o = none) → o.isSome = (kvs.any fun q => PyData.eqv q.1 dx) → (∃ r, OpR X (compareOp .In) r ∧ ∀ Q : VK, Q (.bl (kvs.any fun q => PyData.eqv q.1 dx)) H → r x (.ref p) H Q) ∧ ∃ r, OpR X (compareOp .NotIn) r ∧ ∀ Q : VK, Q (.bl (!(kvs.any fun q => PyData.eqv q.1 dx))) H → r x (.ref p) H Q := fun o g eo => by
        rw [← eo]
        exact ⟨⟨_, op_dIn (by omega), fun Q q => ⟨p, o, rfl, g, q⟩⟩, ⟨_, op_dNotIn (by omega), fun Q q => ⟨p, o, rfl, g, q⟩⟩⟩
      cases dx with
      | tuple ds =>
        obtain ⟨b, xs, rfl, hb, _, l1⟩ := h1.tup s
        obtain ⟨qs, rfl, rfl⟩ := keys_of l1 hk
        rcases hd with ⟨ks, r, dk⟩ | ⟨ks, r, dt⟩
        · cases dk with
          | nil => exact go none (.inr ⟨.inl ⟨r, qs, b, rfl, hb⟩, rfl⟩) rfl
          | cons _ _ =>
            rename_i k _ _ _ _ _ _
            cases k <;> (simp [kindOK, keyD, isKey1] at hkind)
        · exact go (valV ks qs) (.inl (.inr ⟨ks, qs, b, r, rfl, hb, rfl⟩)) (by rw [valV_isSome, dt.any qs])
      | _ =>
        first
          | (cases hk; done)
          | skip
        all_goals
          obtain ⟨q, rfl, e2⟩ := key1_of (h1.flat rfl) hk
          rw [e2]
          rw [e2] at go
          rcases hd with ⟨ks, r, dk⟩ | ⟨ks, r, dt⟩
          · exact go (valV ks q) (.inl (.inl ⟨ks, q, r, rfl, rfl⟩)) (by rw [valV_isSome, dk.any q])
          · cases dt with
            | nil => exact go none (.inr ⟨.inr ⟨r, q, rfl⟩, rfl⟩) rfl
            | cons _ _ => simp [kindOK, isKey1] at hkind
    · cases e
  · cases e

theorem cmp_data {o : CmpO} {dx dy : PyData} {d : Bool} (s : Sub F H) (h1 : SeenP T.K F H x dx) (h2 : SeenP T.K F H y dy) (e : cmpD o dx dy = some d) (hK : X.K = T.K) (hu : X.A.units + 100 < cLine) (q : Q (.bl d) H) :
    ∃ r, OpR X (compareOp (opC o)) r ∧ r x y H Q := by
  cases o with
  | eq =>
    obtain ⟨r, h, k⟩ := (eq_data (X := X) s h1 h2 e hK hu).1
    exact ⟨r, h, k Q q⟩
  | ne =>
    have e : (eqD dx dy).map (!·) = some d := e
    cases q1 : eqD dx dy with
    | none => rw [q1] at e; cases e
    | some b =>
      rw [q1] at e
      cases e
      obtain ⟨r, h, k⟩ := (eq_data (X := X) s h1 h2 q1 hK hu).2
      exact ⟨r, h, k Q q⟩
  | lt =>
    unfold cmpD at e
    simp only at e
    split at e
    · cases e; cases h1.int; cases h2.int
      exact ⟨_, op_lt, _, _, rfl, rfl, q⟩
    · cases e; cases h1.str; cases h2.str
      exact ⟨_, op_lt_str, _, _, rfl, rfl, q⟩
    · cases e
  | le =>
    unfold cmpD at e
    simp only at e
    split at e
    · cases e; cases h1.int; cases h2.int
      exact ⟨_, op_le, _, _, rfl, rfl, q⟩
    · cases e; cases h1.str; cases h2.str
      exact ⟨_, op_le_str, _, _, rfl, rfl, q⟩
    · cases e
  | gt =>
    unfold cmpD at e
    simp only at e
    split at e
    · cases e; cases h1.int; cases h2.int
      exact ⟨_, op_gt, _, _, rfl, rfl, q⟩
    · cases e; cases h1.str; cases h2.str
      exact ⟨_, op_gt_str, _, _, rfl, rfl, q⟩
    · cases e
  | ge =>
    unfold cmpD at e
    simp only at e
    split at e
    · cases e; cases h1.int; cases h2.int
      exact ⟨_, op_ge, _, _, rfl, rfl, q⟩
    · cases e; cases h1.str; cases h2.str
      exact ⟨_, op_ge_str, _, _, rfl, rfl, q⟩
    · cases e
  | is =>
    unfold cmpD at e
    simp only at e
    split at e
    · cases h2.non
      refine ⟨_, op_isN, rfl, ?_⟩
      have : decide (x = .non) = d := by
        cases dx with
        | none => cases h1.non; cases e; rfl
        | bool _ => cases h1.bl; cases e; rfl
        | int _ => cases h1.int; cases e; rfl
        | str _ => cases h1.str; cases e; rfl
        | list _ => obtain ⟨_, _, rfl, _⟩ := h1.list s; cases e; rfl
        | tuple _ => obtain ⟨_, _, rfl, _⟩ := h1.tup s; cases e; rfl
        | dict _ => obtain ⟨_, rfl, _⟩ := h1.dict s; cases e; rfl
      rw [this]
      exact q
    · cases e
  | isNot =>
    unfold cmpD at e
    simp only at e
    split at e
    · cases h2.non
      refine ⟨_, op_notN, rfl, ?_⟩
      have : (!decide (x = .non)) = d := by
        cases dx with
        | none => cases h1.non; cases e; rfl
        | bool _ => cases h1.bl; cases e; rfl
        | int _ => cases h1.int; cases e; rfl
        | str _ => cases h1.str; cases e; rfl
        | list _ => obtain ⟨_, _, rfl, _⟩ := h1.list s; cases e; rfl
        | tuple _ => obtain ⟨_, _, rfl, _⟩ := h1.tup s; cases e; rfl
        | dict _ => obtain ⟨_, rfl, _⟩ := h1.dict s; cases e; rfl
      rw [this]
      exact q
    · cases e
  | isin =>
    obtain ⟨r, h, k⟩ := (in_data (X := X) s h1 h2 e hK hu).1
    exact ⟨r, h, k Q q⟩
  | notin =>
    have e : (inD dx dy).map (!·) = some d := e
    cases q1 : inD dx dy with
    | none => rw [q1] at e; cases e
    | some b =>
      rw [q1] at e
      cases e
      obtain ⟨r, h, k⟩ := (in_data (X := X) s h1 h2 q1 hK hu).2
      exact ⟨r, h, k Q q⟩
theorem ref_of (S : Sim T F ι st H) (r : VRel T F ι st.length a x) (e : ∀ d, see st a ≠ .p d) : ∃ p, x = .ref p := by
  cases a with
  | p d => exact absurd rfl (e d)
  | r k => cases r; exact ⟨_, rfl⟩
  | t _ => cases r; exact ⟨_, rfl⟩
  | l _ => cases r; exact ⟨_, rfl⟩
  | x _ _ => cases r; exact ⟨_, rfl⟩
theorem op_cmp {o : CmpO} (hK : X.K = T.K) (hu : X.A.units + 100 < cLine) : OpR X (compareOp (opC o)) (rCmp T o) := opr_by fun x y H Q h => by
  obtain ⟨F, ι, st, a, b, d, S, ra, rb, e, q⟩ := h
  unfold cmpV at e
  split at e
  · rename_i dx dy e1 e2
    exact cmp_data S.sub (see_seen S ra e1) (see_seen S rb e2) e hK hu q
  · rename_i e2 hn
    have hb := see_seen S rb e2
    cases hb.non
    obtain ⟨p, rfl⟩ := ref_of S ra fun d hd => hn d hd
    split at e
    · cases e
      exact ⟨_, op_isN, rfl, q⟩
    · cases e
      exact ⟨_, op_notN, rfl, q⟩
    · cases e
  · cases e
theorem tru_of {k : Bool} (S : Sim T F ι st H) (r : VRel T F ι st.length a x) (e : truthV (see st a) = some k) : TruV T.K x H k := by
  by_cases hp : ∃ d, see st a = .p d
  · obtain ⟨d, hd⟩ := hp
    have h := see_seen S r hd
    rw [hd] at e
    cases d with
    | none => cases h.non; cases e; rfl
    | bool _ => cases h.bl; cases e; rfl
    | int _ => cases h.int; cases e; rfl
    | str z =>
      cases h.str
      have e : (if z.length ≤ SZ then some (z.length != 0) else none) = some k := e
      split at e
      · cases e
        rename_i hz
        refine ⟨by rw [← SZ_eq]; exact hz, ?_⟩
        rw [Bool.eq_iff_iff]
        simp
      · cases e
    | list ds =>
      obtain ⟨p, xs, rfl, r2, l2⟩ := h.list S.sub
      cases e
      exact .inl ⟨xs, .inl r2, by cases l2 <;> rfl⟩
    | tuple ds =>
      obtain ⟨p, xs, rfl, r2, _, l2⟩ := h.tup S.sub
      cases e
      exact .inr (.inl ⟨xs, SqT.of r2, by cases l2 <;> rfl⟩)
    | dict _ => cases e
  · have q2 := see_not (fun d hd => hp ⟨d, hd⟩)
    rw [q2] at e
    cases a with
    | p d => exact absurd ⟨d, rfl⟩ hp
    | r k => cases e
    | x _ _ => cases e
    | t vs =>
      cases r with
      | t h1 h2 =>
        cases e
        exact .inr (.inl ⟨_, SqT.of (S.sub.tup h1), by cases h2 <;> rfl⟩)
    | l vs =>
      cases r with
      | l h1 h2 =>
        cases e
        exact .inl ⟨_, .inl (S.sub.rd (.inl h1)), by cases h2 <;> rfl⟩
end
end Vm
end

section
/-! V5: the evaluator's steps as rules. -/
namespace Vm
open PySem L2 PySem.Spec PyProof.Rows

section
variable {X : Cx} {T : Tb} {W : L2.WX} {Kt : Kit} {e e1 e2 e3 : Expr} {es : List Expr} {pos p2 : Pos}
theorem de_var {i : Nat} {x : Str} (hN : X.N[i]? = some x) (hv : Vis X.env.scope x) (hd : (x == ("__debug__" : Str)) = false) (hcd : (x == ("__classdict__" : Str)) = false) : DE X T W (.Name x pos) (evalX Kt (.var i)) := pe_imp (pe_var hN hv hd hcd) fun σ H Q h => by
  obtain ⟨F, ι, env, st, S, E, p⟩ := h
  rw [evalX] at p
  split at p
  · rename_i v q
    obtain ⟨x, h1, h2⟩ := E.at_ i v q
    exact ⟨x, h1, p.now (Next.refl _ _ _) (Nat.le_refl _) S h2⟩
  · exact p.elim
theorem de_now {t : TE} {f : Env → Store → R Val} (h : PE X e t) (g : ∀ σ F ι env st H Q, Sim T F ι st H → PostG (RV T) T W σ F ι st.length (f env st) Q → t σ H Q) : DE X T W e f := pe_imp h fun σ H Q hh => by
  obtain ⟨F, ι, env, st, S, E, p⟩ := hh
  exact g σ F ι env st H Q S p
theorem de_int {i : Int} {j : Nat} : DE X T W (.Constant (.int i) j pos) (evalX Kt (.con (.int i))) := de_now pe_int fun σ F ι env st H Q S p => by
  rw [evalX] at p
  exact p.now (Next.refl _ _ _) (Nat.le_refl _) S (.p (.int i))
theorem de_bl {i : Bool} {j : Nat} : DE X T W (.Constant (.bool i) j pos) (evalX Kt (.con (.bool i))) := de_now pe_bl fun σ F ι env st H Q S p => by
  rw [evalX] at p
  exact p.now (Next.refl _ _ _) (Nat.le_refl _) S (.p (.bl i))
theorem de_str {i : Str} {j : Nat} : DE X T W (.Constant (.str i) j pos) (evalX Kt (.con (.str i))) := de_now pe_str fun σ F ι env st H Q S p => by
  rw [evalX] at p
  exact p.now (Next.refl _ _ _) (Nat.le_refl _) S (.p (.str i))
theorem de_non {j : Nat} : DE X T W (.Constant .none j pos) (evalX Kt (.con .none)) := de_now pe_non fun σ F ι env st H Q S p => by
  rw [evalX] at p
  exact p.now (Next.refl _ _ _) (Nat.le_refl _) S (.p .non)
/-- a constant of the module: an int, a text -/
theorem de_glo {x : Str} {g : Nat} {d : PyData} {u : Value} {v : V} (hg : Gl X x) (hm : X.mg x = some u) (r : RelV v u) (hv : Dat T.K (fun _ => none) v d) (hc : Kt.con g = some d) (hd : (x == ("__debug__" : Str)) = false) : DE X T W (.Name x pos) (evalX Kt (.glo g)) :=
  de_now (pe_glob hg hm r hd) fun σ F ι env st H Q S p => by
    rw [evalX, hc] at p
    exact p.now (Next.refl _ _ _) (Nat.le_refl _) S (.p (hv.up fun a o h => by cases h))
/-- two parts, then an operation by values -/
theorem de_two {r : R2} {fa fb : Env → Store → R Val} {g : Env → Val → Val → Store → R Val} (h : PE X e (tOp r (tEvG (RV T) T W fa) (tEvG (RV T) T W fb)))
    (k : ∀ σ F ι env st H a b x y Q, Sim T F ι st H → VRel T F ι st.length a x → VRel T F ι st.length b y → PostG (RV T) T W σ F ι st.length (g env a b st) Q → r x y H Q) :
    DE X T W e (fun env st => (fa env st).bind fun x st1 => (fb env st1).bind fun y st2 => g env x y st2) := pe_imp h fun σ H Q hh => by
  refine (ev_bind (RA := RV T) hh).imp fun x H1 ⟨F1, ι1, env, a, st1, M, p⟩ => ?_
  refine tEvG.imp (ev_go M.sim M.env (PostG.bind (RA := RV T) (r := fb env st1) p)) fun y H2 ⟨F2, ι2, b, st2, M2, p2⟩ => ?_
  exact k σ F2 ι2 env st2 H2 a b x y Q M2.sim (M.rel.up M2.nx M2.le) M2.rel p2
theorem de_eq {f g : Env → Store → R Val} (h : DE X T W e f) (q : ∀ env st, g env st = f env st) : DE X T W e g := pe_imp h fun σ H Q hh => by
  obtain ⟨F, ι, env, st, S, E, p⟩ := hh
  rw [q] at p
  exact ⟨F, ι, env, st, S, E, p⟩
theorem dt_eq {f g : Env → Store → R Bool} (h : DT X T W e f) (q : ∀ env st, g env st = f env st) : DT X T W e g := pt_imp h fun σ H Q hh => by
  obtain ⟨F, ι, env, st, S, E, p⟩ := hh
  rw [q] at p
  exact ⟨F, ι, env, st, S, E, p⟩
theorem da_eq {f g : Env → Store → R (List Val)} (h : DA X T W es f) (q : ∀ env st, g env st = f env st) : DA X T W es g := pa_imp h fun σ H Q hh => by
  obtain ⟨F, ι, env, st, S, E, p⟩ := hh
  rw [q] at p
  exact ⟨F, ι, env, st, S, E, p⟩
theorem de_bin {o : BinO} {a b : Ex} (hK : X.K = T.K) (h1 : DE X T W e1 (evalX Kt a)) (h2 : DE X T W e2 (evalX Kt b)) : DE X T W (.BinOp e1 (opB o) e2 pos) (evalX Kt (.bin o a b)) :=
  de_eq (de_two (W := W) (r := rBin T o) (fa := evalX Kt a) (fb := evalX Kt b) (g := fun _ x y st2 => R.of (binV o (see st2 x) (see st2 y)) st2) (pe_op (pos := pos) (op_bin hK) h1 h2) fun σ F ι env st H a b x y Q S ra rb p => by
    obtain ⟨d, e, A⟩ := of_ans S p
    exact ⟨F, ι, st, a, b, d, S, ra, rb, e, A⟩) fun env st => by rw [evalX] <;> rfl
theorem de_cmp {o : CmpO} {a b : Ex} (hK : X.K = T.K) (hu : X.A.units + 100 < cLine) (hm : behindInMarks (opC o) e2 = false) (h1 : DE X T W e1 (evalX Kt a)) (h2 : DE X T W e2 (evalX Kt b)) : DE X T W (.Compare e1 [opC o] [e2] pos) (evalX Kt (.cmp o a b)) :=
  de_eq (de_two (W := W) (r := rCmp T o) (fa := evalX Kt a) (fb := evalX Kt b) (g := fun _ x y st2 => match cmpV o (see st2 x) (see st2 y) with
    | some c => .ok (.p (.bool c)) st2
    | none => .no) (pe_cmpR (pos := pos) (op_cmp hK hu) h1 h2 hm) fun σ F ι env st H a b x y Q S ra rb p => by
    split at p
    · rename_i c hc
      exact ⟨F, ι, st, a, b, c, S, ra, rb, hc, (ok_ans S p).bl⟩
    · exact p.elim) fun env st => by rw [evalX] <;> rfl
theorem de_neg {a : Ex} (h1 : DE X T W e1 (evalX Kt a)) : DE X T W (.UnaryOp .USub e1 pos) (evalX Kt (.neg a)) :=
  de_eq (f := fun env st => (evalX Kt a env st).bind fun x st1 => match x with
    | .p (.int i) => .ok (.p (.int (-i))) st1
    | _ => .no) (pe_imp (pe_un (pos := pos) un_neg h1) fun σ H Q hh => by
    refine tEvG.imp (ev_bind (RA := RV T) (RB := RV T) (g := fun _ x st1 => match x with
      | Val.p (.int i) => .ok (.p (.int (-i))) st1
      | _ => .no) hh) fun x H1 ⟨F1, ι1, env, a, st1, M, p⟩ => ?_
    split at p
    · have r := M.rel
      cases r with
      | p r =>
        cases r
        exact ⟨_, rfl, (ok_ans M.sim p).int⟩
    · exact p.elim) fun env st => by rw [evalX] <;> rfl
theorem de_and {a b : Ex} {e' : Expr} {rest : List Expr} (hK : X.K = T.K) (h1 : DE X T W e1 (evalX Kt a)) (h2 : DE X T W (.BoolOp .And (e' :: rest) pos) (evalX Kt b)) : DE X T W (.BoolOp .And (e1 :: e' :: rest) pos) (evalX Kt (.and a b)) :=
  de_eq (f := fun env st => (evalX Kt a env st).bind ((fun env x st1 => match truthV (see st1 x) with
    | some true => evalX Kt b env st1
    | some false => .ok x st1
    | none => .no) env)) (pe_imp (pe_andT (pos := pos) h1 h2) fun σ H Q hh => by
    refine tEvG.imp (ev_bind (RA := RV T) (RB := RV T) hh) fun x H1 ⟨F1, ι1, env, a, st1, M, p⟩ => ?_
    cases q : truthV (see st1 a) with
    | none => rw [q] at p; exact p.elim
    | some k =>
      rw [q] at p
      refine ⟨k, by rw [hK]; exact tru_of M.sim M.rel q, ?_⟩
      cases k with
      | true => exact iteT (ev_go M.sim M.env p)
      | false => exact iteF (p.now (Next.refl _ _ _) (Nat.le_refl _) M.sim M.rel)) fun env st => by rw [evalX] <;> rfl
theorem de_or {a b : Ex} {e' : Expr} {rest : List Expr} (hK : X.K = T.K) (h1 : DE X T W e1 (evalX Kt a)) (h2 : DE X T W (.BoolOp .Or (e' :: rest) pos) (evalX Kt b)) : DE X T W (.BoolOp .Or (e1 :: e' :: rest) pos) (evalX Kt (.or a b)) :=
  de_eq (f := fun env st => (evalX Kt a env st).bind ((fun env x st1 => match truthV (see st1 x) with
    | some true => .ok x st1
    | some false => evalX Kt b env st1
    | none => .no) env)) (pe_imp (pe_orT (pos := pos) h1 h2) fun σ H Q hh => by
    refine tEvG.imp (ev_bind (RA := RV T) (RB := RV T) hh) fun x H1 ⟨F1, ι1, env, a, st1, M, p⟩ => ?_
    cases q : truthV (see st1 a) with
    | none => rw [q] at p; exact p.elim
    | some k =>
      rw [q] at p
      refine ⟨k, by rw [hK]; exact tru_of M.sim M.rel q, ?_⟩
      cases k with
      | true => exact iteT (p.now (Next.refl _ _ _) (Nat.le_refl _) M.sim M.rel)
      | false => exact iteF (ev_go M.sim M.env p)) fun env st => by rw [evalX] <;> rfl
theorem de_last {o : BoolOp} {a : Ex} (h1 : DE X T W e1 (evalX Kt a)) : DE X T W (.BoolOp o [e1] pos) (evalX Kt a) := pe_one h1
theorem de_not {a : Ex} (hK : X.K = T.K) (h1 : DE X T W e1 (evalX Kt a)) : DE X T W (.UnaryOp .Not e1 pos) (evalX Kt (.not a)) :=
  de_eq (f := fun env st => (evalX Kt a env st).bind ((fun _ x st1 => match truthV (see st1 x) with
    | some b => .ok (.p (.bool (!b))) st1
    | none => .no) env)) (pe_imp (pe_notT (pos := pos) h1) fun σ H Q hh => by
    refine tEvG.imp (ev_bind (RA := RV T) (RB := RV T) hh) fun x H1 ⟨F1, ι1, env, a, st1, M, p⟩ => ?_
    cases q : truthV (see st1 a) with
    | none => rw [q] at p; exact p.elim
    | some k =>
      rw [q] at p
      exact ⟨k, by rw [hK]; exact tru_of M.sim M.rel q, (ok_ans M.sim p).bl⟩) fun env st => by rw [evalX] <;> rfl
theorem de_ite {c a b : Ex} (h0 : DT X T W e1 (evalT Kt (.cons c .nil))) (h1 : DE X T W e2 (evalX Kt a)) (h2 : DE X T W e3 (evalX Kt b)) : DE X T W (.IfExp e1 e2 e3 pos) (evalX Kt (.ite c a b)) :=
  de_eq (f := fun env st => (evalT Kt (.cons c .nil) env st).bind ((fun env k st1 => match k with
    | true => evalX Kt a env st1
    | false => evalX Kt b env st1) env)) (pe_imp (pe_ifExp (pos := pos) h0 h1 h2) fun σ H Q hh => by
    refine tEvG.imp (ev_bind (RA := RE) (RB := RV T) hh) fun k H1 ⟨F1, ι1, env, a, st1, M, p⟩ => ?_
    have hk : a = k := M.rel
    subst hk
    cases a with
    | true => exact iteT (ev_go M.sim M.env p)
    | false => exact iteF (ev_go M.sim M.env p)) fun env st => by
      rw [evalX, evalT]
      cases evalX Kt c env st with
      | ok v s =>
        simp only [R.bind_ok]
        cases truthV (see s v) with
        | none => rfl
        | some k => cases k <;> rfl
      | er _ _ _ => rfl
      | no => rfl
theorem de_chn {o o' : CmpO} {a b c : Ex} (hK : X.K = T.K) (hu : X.A.units + 100 < cLine) (hm : lastMarks [opC o, opC o'] [e2, e3] = false) (h1 : DE X T W e1 (evalX Kt a)) (h2 : DE X T W e2 (evalX Kt b)) (h3 : DE X T W e3 (evalX Kt c)) :
    DE X T W (.Compare e1 [opC o, opC o'] [e2, e3] pos) (evalX Kt (.chn o o' a b c)) :=
  de_eq (f := fun env st => (evalX Kt a env st).bind ((fun env x st1 => (evalX Kt b env st1).bind fun y st2 => match cmpV o (see st2 x) (see st2 y) with
    | some true => (evalX Kt c env st2).bind fun z st3 => match cmpV o' (see st3 y) (see st3 z) with
      | some d => .ok (.p (.bool d)) st3
      | none => .no
    | some false => .ok (.p (.bool false)) st2
    | none => .no) env)) (pe_imp (pe_chain (pos := pos) (op_cmp (T := T) (o := o) hK hu) (op_cmp (T := T) (o := o') hK hu) h1 h2 h3 hm) fun σ H Q hh => by
    refine tEvG.imp (ev_bind (RA := RV T) (RB := RV T) hh) fun x H1 ⟨F1, ι1, env, a, st1, M, p⟩ => ?_
    refine tEvG.imp (ev_go M.sim M.env (PostG.bind (RA := RV T) (r := evalX Kt b env st1) p)) fun y H2 ⟨F2, ι2, b, st2, M2, p2⟩ => ?_
    have ra := M.rel.up M2.nx M2.le
    have E2 := M.env.up M2.nx M2.le
    cases q : cmpV o (see st2 a) (see st2 b) with
    | none => rw [q] at p2; exact p2.elim
    | some k =>
      rw [q] at p2
      refine ⟨F2, ι2, st2, a, b, k, M2.sim, ra, M2.rel, q, k, rfl, ?_⟩
      cases k with
      | true =>
        refine iteT (tEvG.imp (ev_go M2.sim E2 (PostG.bind (RA := RV T) (r := evalX Kt c env st2) p2)) fun z H3 ⟨F3, ι3, d, st3, M3, p3⟩ => ?_)
        cases q3 : cmpV o' (see st3 b) (see st3 d) with
        | none => rw [q3] at p3; exact p3.elim
        | some k3 =>
          rw [q3] at p3
          exact ⟨F3, ι3, st3, b, d, k3, M3.sim, M2.rel.up M3.nx M3.le, M3.rel, q3, (ok_ans M3.sim p3).bl⟩
      | false => exact iteF (ok_ans M2.sim p2).bl) fun env st => by rw [evalX] <;> rfl
end

/-! ### tests -/
section
variable {X : Cx} {T : Tb} {W : L2.WX} {Kt : Kit} {e e1 e2 e3 : Expr} {es : List Expr} {pos p2 : Pos}
/-- a test of any expression that isTrue asks plainly -/
theorem dt_plain {a : Ex} (hK : X.K = T.K) (h1 : DE X T W e (evalX Kt a)) (he : ∀ whole, isTrue e X.env whole = (do let v ← whole; standAt e.pos; holding [v] (truthy v))) : DT X T W e (evalT Kt (.cons a .nil)) :=
  dt_eq (f := fun env st => (evalX Kt a env st).bind ((fun _ x st1 => match truthV (see st1 x) with
    | some b => .ok b st1
    | none => .no) env)) (pt_imp (pt_truth h1 he) fun σ H Q hh => by
    refine tEvG.imp (ev_bind (RA := RV T) (RB := RE) hh) fun x H1 ⟨F1, ι1, env, a, st1, M, p⟩ => ?_
    cases q : truthV (see st1 a) with
    | none => rw [q] at p; exact p.elim
    | some k =>
      rw [q] at p
      exact ⟨k, by rw [hK]; exact tru_of M.sim M.rel q, p.now (Next.refl _ _ _) (Nat.le_refl _) M.sim rfl⟩) fun env st => by rw [evalT] <;> rfl
theorem bind_bind {α β γ : Type} (r : R α) (f : α → Store → R β) (g : β → Store → R γ) : (r.bind f).bind g = r.bind fun a s => (f a s).bind g := by
  cases r <;> rfl
theorem dt_cmp {o : CmpO} {a b : Ex} (hK : X.K = T.K) (hu : X.A.units + 100 < cLine) (hm : behindInMarks (opC o) e2 = false) (h1 : DE X T W e1 (evalX Kt a)) (h2 : DE X T W e2 (evalX Kt b)) : DT X T W (.Compare e1 [opC o] [e2] pos) (evalT Kt (.cons (.cmp o a b) .nil)) :=
  dt_eq (f := fun env st => (evalX Kt a env st).bind ((fun env x st1 => (evalX Kt b env st1).bind fun y st2 => match cmpV o (see st2 x) (see st2 y) with
    | some c => .ok c st2
    | none => .no) env)) (pt_imp (pt_cmpR (pos := pos) (op_cmp (T := T) (o := o) hK hu) h1 h2 hm) fun σ H Q hh => by
    refine tEvG.imp (ev_bind (RA := RV T) (RB := RE) hh) fun x H1 ⟨F1, ι1, env, a, st1, M, p⟩ => ?_
    refine tEvG.imp (ev_go M.sim M.env (PostG.bind (RA := RV T) (r := evalX Kt b env st1) p)) fun y H2 ⟨F2, ι2, b, st2, M2, p2⟩ => ?_
    cases q : cmpV o (see st2 a) (see st2 b) with
    | none => rw [q] at p2; exact p2.elim
    | some k =>
      rw [q] at p2
      exact ⟨F2, ι2, st2, a, b, k, M2.sim, M.rel.up M2.nx M2.le, M2.rel, q, k, rfl, p2.now (Next.refl _ _ _) (Nat.le_refl _) M2.sim rfl⟩) fun env st => by
      rw [evalT, evalX, bind_bind]
      congr 1
      funext x st1
      rw [bind_bind]
      congr 1
      funext y st2
      cases cmpV o (see st2 x) (see st2 y) <;> rfl
theorem dt_chn {o o' : CmpO} {a b c : Ex} (hK : X.K = T.K) (hu : X.A.units + 100 < cLine) (hm : lastMarks [opC o, opC o'] [e2, e3] = false) (h1 : DE X T W e1 (evalX Kt a)) (h2 : DE X T W e2 (evalX Kt b)) (h3 : DE X T W e3 (evalX Kt c)) :
    DT X T W (.Compare e1 [opC o, opC o'] [e2, e3] pos) (evalT Kt (.cons (.chn o o' a b c) .nil)) :=
  dt_eq (f := fun env st => (evalX Kt a env st).bind ((fun env x st1 => (evalX Kt b env st1).bind fun y st2 => match cmpV o (see st2 x) (see st2 y) with
    | some true => (evalX Kt c env st2).bind fun z st3 => match cmpV o' (see st3 y) (see st3 z) with
      | some d => .ok d st3
      | none => .no
    | some false => .ok false st2
    | none => .no) env)) (pt_imp (pt_chain (pos := pos) (op_cmp (T := T) (o := o) hK hu) (op_cmp (T := T) (o := o') hK hu) h1 h2 h3 hm) fun σ H Q hh => by
    refine tEvG.imp (ev_bind (RA := RV T) (RB := RE) hh) fun x H1 ⟨F1, ι1, env, a, st1, M, p⟩ => ?_
    refine tEvG.imp (ev_go M.sim M.env (PostG.bind (RA := RV T) (r := evalX Kt b env st1) p)) fun y H2 ⟨F2, ι2, b, st2, M2, p2⟩ => ?_
    have ra := M.rel.up M2.nx M2.le
    have E2 := M.env.up M2.nx M2.le
    cases q : cmpV o (see st2 a) (see st2 b) with
    | none => rw [q] at p2; exact p2.elim
    | some k =>
      rw [q] at p2
      refine ⟨F2, ι2, st2, a, b, k, M2.sim, ra, M2.rel, q, k, rfl, ?_⟩
      cases k with
      | true =>
        refine iteT (tEvG.imp (ev_go M2.sim E2 (PostG.bind (RA := RV T) (r := evalX Kt c env st2) p2)) fun z H3 ⟨F3, ι3, d, st3, M3, p3⟩ => ?_)
        cases q3 : cmpV o' (see st3 b) (see st3 d) with
        | none => rw [q3] at p3; exact p3.elim
        | some k3 =>
          rw [q3] at p3
          exact ⟨F3, ι3, st3, b, d, k3, M3.sim, M2.rel.up M3.nx M3.le, M3.rel, q3, k3, rfl, p3.now (Next.refl _ _ _) (Nat.le_refl _) M3.sim rfl⟩
      | false => exact iteF ⟨false, rfl, p2.now (Next.refl _ _ _) (Nat.le_refl _) M2.sim rfl⟩) fun env st => by
      rw [evalT, evalX, bind_bind]
      congr 1
      funext x st1
      rw [bind_bind]
      congr 1
      funext y st2
      cases cmpV o (see st2 x) (see st2 y) with
      | none => rfl
      | some k =>
        cases k with
        | false => rfl
        | true =>
          simp only
          rw [bind_bind]
          congr 1
          funext z st3
          cases cmpV o' (see st3 y) (see st3 z) <;> rfl
theorem dt_not {a : Ex} (h1 : DT X T W e1 (evalT Kt (.cons a .nil))) : DT X T W (.UnaryOp .Not e1 pos) (evalT Kt (.cons (.not a) .nil)) :=
  dt_eq (f := fun env st => (evalT Kt (.cons a .nil) env st).bind ((fun _ k st1 => .ok (!k) st1) env)) (pt_imp (pt_not (pos := pos) h1) fun σ H Q hh => by
    refine tEvG.imp (ev_bind (RA := RE) (RB := RE) hh) fun k H1 ⟨F1, ι1, env, a, st1, M, p⟩ => ?_
    have hk : a = k := M.rel
    subst hk
    exact p.now (Next.refl _ _ _) (Nat.le_refl _) M.sim rfl) fun env st => by
      rw [evalT, evalX, evalT, bind_bind, bind_bind]
      congr 1
      funext x st1
      cases truthV (see st1 x) <;> rfl
/-- and, or: tests -/
abbrev DW (X : Cx) (T : Tb) (W : L2.WX) (e : Expr) (f : Env → Store → R Bool) : Prop := PW X e (tEvG RE T W f)
theorem dw_eq {f g : Env → Store → R Bool} (h : DW X T W e f) (q : ∀ env st, g env st = f env st) : DW X T W e g := pw_imp h fun σ H Q hh => by
  obtain ⟨F, ι, env, st, S, E, p⟩ := hh
  rw [q] at p
  exact ⟨F, ι, env, st, S, E, p⟩
theorem dw_and1 {a : Ex} (h1 : DT X T W e1 (evalT Kt (.cons a .nil))) : DW X T W (.BoolOp .And [e1] pos) (evalT Kt (.cons a .nil)) := pw_and1 h1
theorem dw_or1 {a : Ex} (h1 : DT X T W e1 (evalT Kt (.cons a .nil))) : DW X T W (.BoolOp .Or [e1] pos) (evalT Kt (.cons a .nil)) := pw_or1 h1
theorem dw_and {a b : Ex} {e' : Expr} {rest : List Expr} (h1 : DT X T W e1 (evalT Kt (.cons a .nil))) (h2 : DW X T W (.BoolOp .And (e' :: rest) pos) (evalT Kt (.cons b .nil))) : DW X T W (.BoolOp .And (e1 :: e' :: rest) pos) (evalT Kt (.cons (.and a b) .nil)) :=
  dw_eq (f := fun env st => (evalT Kt (.cons a .nil) env st).bind ((fun env k st1 => match k with
    | true => evalT Kt (.cons b .nil) env st1
    | false => .ok false st1) env)) (pw_imp (pw_and (pos := pos) h1 h2) fun σ H Q hh => by
    refine tEvG.imp (ev_bind (RA := RE) (RB := RE) hh) fun k H1 ⟨F1, ι1, env, a, st1, M, p⟩ => ?_
    have hk : a = k := M.rel
    subst hk
    cases a with
    | true => exact iteT (ev_go M.sim M.env p)
    | false => exact iteF (p.now (Next.refl _ _ _) (Nat.le_refl _) M.sim rfl)) fun env st => by
      rw [evalT, evalX, evalT, bind_bind, bind_bind]
      congr 1
      funext x st1
      cases q : truthV (see st1 x) with
      | none => rfl
      | some k =>
        cases k with
        | true => simp only [R.bind_ok]; rw [evalT]
        | false => simp only [R.bind_ok, q]
theorem dw_or {a b : Ex} {e' : Expr} {rest : List Expr} (h1 : DT X T W e1 (evalT Kt (.cons a .nil))) (h2 : DW X T W (.BoolOp .Or (e' :: rest) pos) (evalT Kt (.cons b .nil))) : DW X T W (.BoolOp .Or (e1 :: e' :: rest) pos) (evalT Kt (.cons (.or a b) .nil)) :=
  dw_eq (f := fun env st => (evalT Kt (.cons a .nil) env st).bind ((fun env k st1 => match k with
    | true => .ok true st1
    | false => evalT Kt (.cons b .nil) env st1) env)) (pw_imp (pw_or (pos := pos) h1 h2) fun σ H Q hh => by
    refine tEvG.imp (ev_bind (RA := RE) (RB := RE) hh) fun k H1 ⟨F1, ι1, env, a, st1, M, p⟩ => ?_
    have hk : a = k := M.rel
    subst hk
    cases a with
    | true => exact iteT (p.now (Next.refl _ _ _) (Nat.le_refl _) M.sim rfl)
    | false => exact iteF (ev_go M.sim M.env p)) fun env st => by
      rw [evalT, evalX, evalT, bind_bind, bind_bind]
      congr 1
      funext x st1
      cases q : truthV (see st1 x) with
      | none => rfl
      | some k =>
        cases k with
        | true => simp only [R.bind_ok, q]
        | false => simp only [R.bind_ok]; rw [evalT]
end
end Vm
end

section
/-! V6: the store grows, changes; arguments, displays, items, slices, calls. -/
namespace Vm
open PySem L2 PySem.Spec PyProof.Rows

section
variable {T : Tb} {F F' H H' : Hp} {ι ι' : Nat → Addr} {n n' : Nat} {st : Store}
theorem CellR.is {a : Addr} {c : Cell} (s : Sub F H) (h : CellR T F ι n H a c) : H a ≠ none := by
  cases c with
  | pl ds => obtain ⟨_, xs, h, _⟩ := h; rw [h]; simp
  | ml ds => obtain ⟨_, xs, h, _⟩ := h; rw [h]; simp
  | pd ds => obtain ⟨_, ⟨_, h, _⟩ | ⟨_, h, _⟩⟩ := h <;> (rw [h]; simp)
  | md ds => obtain ⟨_, ⟨_, h, _⟩ | ⟨_, h, _⟩⟩ := h <;> (rw [h]; simp)
  | ob c fs => obtain ⟨_, _, _, h, _⟩ := h; rw [h]; simp
  | fz d =>
    obtain ⟨⟨o, h⟩, _⟩ := h
    rcases s a o h with h | ⟨_, _, h⟩ <;> (rw [h]; simp)
  | lk c => exact h.elim
/-- a cell elsewhere -/
theorem CellR.el {a : Addr} {c : Cell} (N : Next F ι n F' ι') (hn : n ≤ n') (hh : ∀ o, H a = some o → H' a = some o) (hf : F a = none → F' a = none) (h : CellR T F ι n H a c) : CellR T F' ι' n' H' a c := by
  cases c with
  | pl ds => obtain ⟨h0, xs, h1, h2⟩ := h; exact ⟨hf h0, xs, hh _ h1, h2.up N.sub⟩
  | ml ds => obtain ⟨h0, xs, h1, h2⟩ := h; exact ⟨hf h0, xs, hh _ h1, h2.up N hn⟩
  | pd ds =>
    obtain ⟨h0, ⟨xs, h1, h2⟩ | ⟨xs, h1, h2⟩⟩ := h
    · exact ⟨hf h0, .inl ⟨xs, hh _ h1, h2.up (T := T) N.sub⟩⟩
    · exact ⟨hf h0, .inr ⟨xs, hh _ h1, h2.up (T := T) N.sub⟩⟩
  | md ds =>
    obtain ⟨h0, ⟨xs, h1, h2⟩ | ⟨xs, h1, h2⟩⟩ := h
    · exact ⟨hf h0, .inl ⟨xs, hh _ h1, h2.up N hn⟩⟩
    · exact ⟨hf h0, .inr ⟨xs, hh _ h1, h2.up N hn⟩⟩
  | ob c fs => obtain ⟨h0, dx, gs, h1, h2⟩ := h; exact ⟨hf h0, dx, gs, hh _ h1, h2.up N hn⟩
  | fz d => obtain ⟨⟨o, h1⟩, h2⟩ := h; exact ⟨⟨o, N.f _ _ h1⟩, h2.up N.sub⟩
  | lk c => exact h.elim
theorem Sim.tracked (S : Sim T F ι st H) {k : Nat} (hk : k < st.length) : H (ι k) ≠ none := (S.cel k st[k] (by simp [hk])).is S.sub
/-- a new cell at p -/
theorem Sim.push {p : Addr} {o : HO} {c : Cell} (S : Sim T F ι st H) (hp : H p = none) (hc : CellR T F (fun k => if k = st.length then p else ι k) (st.length + 1) (upd H p o) p c) :
    Sim T F (fun k => if k = st.length then p else ι k) (st ++ [c]) (upd H p o) ∧ Next F ι st.length F (fun k => if k = st.length then p else ι k) := by
  have N : Next F ι st.length F (fun k => if k = st.length then p else ι k) := ⟨fun _ _ h => h, fun k hk => if_neg (Nat.ne_of_lt hk)⟩
  have fp : F p = none := by
    cases e : F p with
    | none => rfl
    | some u => rcases S.sub p u e with h | ⟨_, _, h⟩ <;> (rw [hp] at h; cases h)
  refine ⟨⟨fun a u e => ?_, fun k c' e => ?_, fun j k hj hk e => ?_, fun a u e => ?_, fun a u e => ?_, fun q hq => ?_, S.nt⟩, N⟩
  rotate_left 5
  · obtain ⟨t, h1, h2⟩ := S.tb q hq
    exact ⟨t.ext fun b u h => by rw [upd_ne (ne_of_none h hp)]; exact h, h1, h2⟩
  · have ne : a ≠ p := ne_of_none e fp
    rcases S.sub a u e with h | ⟨q, ob, h⟩
    · exact .inl (by rw [upd_ne ne]; exact h)
    · exact .inr ⟨q, ob, by rw [upd_ne ne]; exact h⟩
  · rw [List.length_append, List.length_singleton]
    by_cases hk : k = st.length
    · subst hk
      rw [List.getElem?_append_right (Nat.le_refl _)] at e
      simp at e
      subst e
      simpa using hc
    · rw [if_neg hk]
      have lt : k < st.length := by
        have : k < (st ++ [c]).length := by
          rcases Nat.lt_or_ge k (st ++ [c]).length with h | h
          · exact h
          · rw [List.getElem?_eq_none h] at e; cases e
        rw [List.length_append, List.length_singleton] at this
        omega
      rw [List.getElem?_append_left lt] at e
      refine (S.cel k c' e).el N (Nat.le_succ _) (fun o h => ?_) (fun h => h)
      rw [upd_ne (ne_of_none h hp)]
      exact h
  · rw [List.length_append, List.length_singleton] at hj hk
    have e : (if j = st.length then p else ι j) = (if k = st.length then p else ι k) := e
    by_cases h1 : j = st.length
    · by_cases h2 : k = st.length
      · omega
      · rw [if_pos h1, if_neg h2] at e
        exact absurd (by rw [← e]; exact hp) (S.tracked (show k < st.length by omega))
    · by_cases h2 : k = st.length
      · rw [if_neg h1, if_pos h2] at e
        exact absurd (by rw [e]; exact hp) (S.tracked (show j < st.length by omega))
      · rw [if_neg h1, if_neg h2] at e
        exact S.inj j k (by omega) (by omega) e
  · rw [upd_ne (ne_of_none (S.gd a u e) hp)]
    exact S.gd a u e
  · refine ⟨(S.gf a u e).1, fun k hk => ?_⟩
    rw [List.length_append, List.length_singleton] at hk
    show (if k = st.length then p else ι k) ≠ a
    by_cases h1 : k = st.length
    · rw [if_pos h1]
      exact fun z => ne_of_none (S.gd a u e) hp z.symm
    · rw [if_neg h1]
      exact (S.gf a u e).2 k (by omega)
/-- what stands at a cell's place is no table and no code object -/
theorem Sim.kind {k : Nat} (S : Sim T F ι st H) (hk : k < st.length) (f0 : F (ι k) = none) : (∀ ps, H (ι k) ≠ some (.tbl ps)) ∧ ∀ φ, H (ι k) ≠ some (.ext φ) := by
  have c := S.cel k st[k] (by simp [hk])
  generalize st[k] = cc at c
  cases cc with
  | pl ds => obtain ⟨_, xs, h, _⟩ := c; rw [h]; exact ⟨fun _ z => (nomatch z), fun _ z => (nomatch z)⟩
  | ml ds => obtain ⟨_, xs, h, _⟩ := c; rw [h]; exact ⟨fun _ z => (nomatch z), fun _ z => (nomatch z)⟩
  | pd ds => obtain ⟨_, ⟨_, h, _⟩ | ⟨_, h, _⟩⟩ := c <;> (rw [h]; exact ⟨fun _ z => (nomatch z), fun _ z => (nomatch z)⟩)
  | md ds => obtain ⟨_, ⟨_, h, _⟩ | ⟨_, h, _⟩⟩ := c <;> (rw [h]; exact ⟨fun _ z => (nomatch z), fun _ z => (nomatch z)⟩)
  | ob c fs => obtain ⟨_, _, _, h, _⟩ := c; rw [h]; exact ⟨fun _ z => (nomatch z), fun _ z => (nomatch z)⟩
  | fz d => obtain ⟨⟨u, h⟩, _⟩ := c; rw [f0] at h; cases h
  | lk c => exact c.elim
theorem Sim.offT {k : Nat} (S : Sim T F ι st H) (hk : k < st.length) (f0 : F (ι k) = none) {p : Addr × Str} (hp : p ∈ T.tb) : p.1 ≠ ι k := fun z => by
  obtain ⟨ps, e⟩ := tabS_at (S.tb p hp).1
  rw [z] at e
  exact (S.kind hk f0).1 ps e
/-- a cell is changed -/
theorem Sim.put {k : Nat} {o : HO} {c : Cell} (S : Sim T F ι st H) (hk : k < st.length) (f0 : F (ι k) = none) (hc : CellR T F ι st.length (upd H (ι k) o) (ι k) c) : Sim T F ι (st.set k c) (upd H (ι k) o) := by
  refine ⟨fun a u e => ?_, fun j c' e => ?_, fun i j hi hj e => S.inj i j (by simpa using hi) (by simpa using hj) e, fun a u e => by rw [upd_ne (fun z => (S.gf a u e).2 k hk z.symm)]; exact S.gd a u e, fun a u e => ⟨(S.gf a u e).1, fun j hj => (S.gf a u e).2 j (by simpa using hj)⟩, fun q hq => ⟨tabS_upd (S.tb q hq).1 (S.offT hk f0 hq) fun c x e z => (S.kind hk f0).2 _ (z ▸ e), (S.tb q hq).2⟩, S.nt⟩
  · have ne : a ≠ ι k := ne_of_none e f0
    rcases S.sub a u e with h | ⟨q, ob, h⟩
    · exact .inl (by rw [upd_ne ne]; exact h)
    · exact .inr ⟨q, ob, by rw [upd_ne ne]; exact h⟩
  · rw [List.length_set]
    by_cases hj : k = j
    · subst hj
      rw [List.getElem?_set_self hk] at e
      cases e
      exact hc
    · rw [List.getElem?_set_ne hj] at e
      have lt : j < st.length := by
        rcases Nat.lt_or_ge j st.length with h | h
        · exact h
        · rw [List.getElem?_eq_none h] at e; cases e
      refine (S.cel j c' e).el (Next.refl _ _ _) (Nat.le_refl _) (fun o h => ?_) fun h => h
      rw [upd_ne (fun z => hj (S.inj k j hk lt z.symm))]
      exact h
/-- a cell is frozen -/
theorem Sim.freeze {k : Nat} {o : HO} {d : PyData} (S : Sim T F ι st H) (hk : k < st.length) (f0 : F (ι k) = none) (ho : H (ι k) = some o) (hd : Dat T.K (upd F (ι k) o) (.ref (ι k)) d) :
    Sim T (upd F (ι k) o) ι (st.set k (.fz d)) H ∧ Next F ι st.length (upd F (ι k) o) ι := by
  have N : Next F ι st.length (upd F (ι k) o) ι := ⟨fun a u e => by rw [upd_ne (ne_of_none e f0)]; exact e, fun _ _ => rfl⟩
  refine ⟨⟨fun a u e => ?_, fun j c' e => ?_, fun i j hi hj e => S.inj i j (by simpa using hi) (by simpa using hj) e, S.gd, fun a u e => ⟨by rw [upd_ne (fun z => (S.gf a u e).2 k hk z.symm)]; exact (S.gf a u e).1, fun j hj => (S.gf a u e).2 j (by simpa using hj)⟩, fun q hq => ⟨(S.tb q hq).1, by rw [upd_ne (S.offT hk f0 hq)]; exact (S.tb q hq).2.1, (S.tb q hq).2.2⟩, fun a ps z => by
    by_cases e : a = ι k
    · rw [e, upd_same] at z
      rw [z] at ho
      exact (S.kind hk f0).1 ps ho
    · rw [upd_ne e] at z
      exact S.nt.1 a ps z, S.nt.2⟩, N⟩
  · by_cases h : a = ι k
    · subst h
      rw [upd_same] at e
      cases e
      exact .inl ho
    · rw [upd_ne h] at e
      exact S.sub a u e
  · rw [List.length_set]
    by_cases hj : k = j
    · subst hj
      rw [List.getElem?_set_self hk] at e
      cases e
      exact ⟨⟨o, upd_same⟩, hd⟩
    · rw [List.getElem?_set_ne hj] at e
      have lt : j < st.length := by
        rcases Nat.lt_or_ge j st.length with h | h
        · exact h
        · rw [List.getElem?_eq_none h] at e; cases e
      refine (S.cel j c' e).el N (Nat.le_refl _) (fun o h => h) fun h => ?_
      rw [upd_ne (fun z => hj (S.inj k j hk lt z.symm))]
      exact h
end

/-! ### arguments -/
section
variable {X : Cx} {T : Tb} {W : L2.WX} {Kt : Kit} {e e1 e2 e3 : Expr} {es : List Expr} {pos p2 : Pos}
theorem da_nil : DA X T W [] (evalL Kt .nil) := pa_imp pa_nil fun σ H Q hh => by
  obtain ⟨F, ι, env, st, S, E, p⟩ := hh
  rw [evalL] at p
  exact p.now (Next.refl _ _ _) (Nat.le_refl _) S .nil
theorem da_cons {a b : Ex} (h1 : DE X T W e (evalX Kt a)) (h2 : DA X T W es (evalL Kt b)) (hs : starEach (e :: es) X.env = (false, eval e X.env) :: starEach es X.env) : DA X T W (e :: es) (evalL Kt (.cons a b)) :=
  da_eq (f := fun env st => (evalX Kt a env st).bind ((fun env x st1 => (evalL Kt b env st1).bind fun xs st2 => .ok (x :: xs) st2) env)) (pa_imp (pa_cons h1 h2 hs) fun σ H Q hh => by
    refine tEvG.imp (ev_bind (RA := RV T) (RB := RL T) hh) fun x H1 ⟨F1, ι1, env, a, st1, M, p⟩ => ?_
    refine tEvG.imp (ev_go M.sim M.env (PostG.bind (RA := RL T) (r := evalL Kt b env st1) p)) fun y H2 ⟨F2, ι2, b, st2, M2, p2⟩ => ?_
    exact p2.now (Next.refl _ _ _) (Nat.le_refl _) M2.sim (.cons (M.rel.up M2.nx M2.le) M2.rel)) fun env st => by rw [evalL]
/-- arguments, then a use of their values -/
theorem de_args {f : Env → Store → R (List Val)} {t : TA → TE} {g : Env → List Val → Store → R Val} {r : L2.St → List V → Hp → VK → Prop} (h : PE X e fun σ H Q => tEvG (RL T) T W f σ H fun vs H1 => r σ vs H1 Q)
    (k : ∀ σ F ι env st H vs xs Q, Sim T F ι st H → VRelL T F ι st.length vs xs → PostG (RV T) T W σ F ι st.length (g env vs st) Q → r σ xs H Q) :
    DE X T W e (fun env st => (f env st).bind (g env)) := pe_imp h fun σ H Q hh => by
  refine tEvG.imp (ev_bind (RA := RL T) (RB := RV T) hh) fun xs H1 ⟨F1, ι1, env, vs, st1, M, p⟩ => ?_
  exact k σ F1 ι1 env st1 H1 vs xs Q M.sim M.rel p
theorem de_tup {a : Ex} {x1 : Nat} (h : DA X T W es (evalL Kt a)) : DE X T W (.Tuple es x1 pos) (evalX Kt (.tup a)) :=
  de_eq (de_args (t := tTup) (g := fun _ vs st1 => if vs.length ≤ SZ then .ok (mkT vs) st1 else .no) (pe_tup (x1 := x1) (pos := pos) h) fun σ F ι env st H vs xs Q S r p => by
    split at p
    · rename_i hz
      exact ⟨by rw [← r.length, ← SZ_eq]; exact hz, (ok_ans S p).mkT S.sub r⟩
    · exact p.elim) fun env st => by rw [evalX]
/-- a new list, frozen or a cell -/
theorem alloc_post {f : Nat} {F H : Hp} {ι : Nat → Addr} {σ : L2.St} {st : Store} {vs : List Val} {xs : List V} {Q : VK} (S : Sim T F ι st H) (r : VRelL T F ι st.length vs xs) (p : PostG (RV T) T W σ F ι st.length (alloc f vs st) Q) :
    ∀ q, H q = none → Q (.ref q) (upd H q (.lst xs)) := fun q hq => by
  have f0 : F q = none := by
    cases e : F q with
    | none => rfl
    | some u => rcases S.sub q u e with h | ⟨_, _, h⟩ <;> (rw [hq] at h; cases h)
  unfold alloc at p
  split at p
  · exact (ok_ans S p).mkL S.sub r q hq
  · split at p
    · rename_i ds e
      obtain ⟨S2, N⟩ := S.push (o := .lst xs) (c := .pl ds) hq ⟨f0, xs, upd_same, r.pure e⟩
      refine p F _ _ (.ref q) N (by simp) S2 ?_
      have := VRel.r (T := T) (F := F) (ι := fun k => if k = st.length then q else ι k) (n := (st ++ [Cell.pl ds]).length) (k := st.length) (by simp)
      simpa using this
    · exact p.elim
  · obtain ⟨S2, N⟩ := S.push (o := .lst xs) (c := .ml vs) hq ⟨f0, xs, upd_same, r.up ⟨fun _ _ h => h, fun k hk => if_neg (Nat.ne_of_lt hk)⟩ (Nat.le_succ _)⟩
    refine p F _ _ (.ref q) N (by simp) S2 ?_
    have := VRel.r (T := T) (F := F) (ι := fun k => if k = st.length then q else ι k) (n := (st ++ [Cell.ml vs]).length) (k := st.length) (by simp)
    simpa using this
theorem de_lst {f : Nat} {a : Ex} (h : DA X T W es (evalL Kt a)) : DE X T W (.List es pos) (evalX Kt (.lst f a)) :=
  de_eq (de_args (t := tLst) (g := fun _ vs st1 => if vs.length ≤ SZ then alloc f vs st1 else .no) (pe_lst (pos := pos) h) fun σ F ι env st H vs xs Q S r p => by
    split at p
    · rename_i hz
      exact ⟨by rw [← r.length, ← SZ_eq]; exact hz, alloc_post S r p⟩
    · exact p.elim) fun env st => by rw [evalX]
end
end Vm
end

section
/-! V7: items, slices, concatenations, calls. -/
namespace Vm
open PySem L2 PySem.Spec PyProof.Rows

section
variable {α β γ δ : Type} {RA : Hp → (Nat → Addr) → Nat → α → β → Prop} {RB : Hp → (Nat → Addr) → Nat → γ → δ → Prop} {T : Tb} {W : L2.WX} {σ : L2.St} {F F' H H' : Hp} {ι ι' : Nat → Addr} {n n' : Nat} {st : Store}
/-- .. and what the first part gave -/
theorem PostG.bindE {r : R α} {g : α → Store → R γ} {Q : δ → Hp → Prop} (p : PostG RB T W σ F ι n (r.bind g) Q) :
    PostG RA T W σ F ι n r (fun x H1 => ∃ F1 ι1 v st1, Mid RA T F ι n H1 F1 ι1 v x st1 ∧ r = .ok v st1 ∧ PostG RB T W σ F1 ι1 st1.length (g v st1) Q) := by
  cases r with
  | ok v s => exact fun F2 ι2 H2 x N2 h2 S R => ⟨F2, ι2, v, s, ⟨N2, h2, S, R⟩, rfl, PostG.up N2 h2 (fun _ _ _ _ => trivial) p⟩
  | er c fs s => exact p
  | no => exact p
theorem de_by {X : Cx} {e : Expr} {f : Env → Store → R Val} (h : ∀ σ F ι env st H Q, Sim T F ι st H → EnvR T F ι st.length σ env → PostG (RV T) T W σ F ι st.length (f env st) Q → ∃ t, PE X e t ∧ t σ H Q) : DE X T W e f :=
  pe_by fun σ H Q ⟨F, ι, env, st, S, E, p⟩ => h σ F ι env st H Q S E p
end
theorem ixr_by {X : Cx} {r' : R2} (h : ∀ x y H Q, r' x y H Q → ∃ r, IxR X r ∧ r x y H Q) : IxR X r' := fun value slice pins s σ H x y v u Q I rx ry q hs => by
  obtain ⟨r, h1, h2⟩ := h x y H Q q
  exact h1 value slice pins s σ H x y v u Q I rx ry h2 hs
theorem slr_by {X : Cx} {r' : V → Option Int → Option Int → Hp → VK → Prop} (h : ∀ x lo hi H Q, r' x lo hi H Q → ∃ r, SlR X r ∧ r x lo hi H Q) : SlR X r' := fun pins s σ H x v vl vu lo hi sl Q I rx hs pl pu q => by
  obtain ⟨r, h1, h2⟩ := h x lo hi H Q q
  exact h1 pins s σ H x v vl vu lo hi sl Q I rx hs pl pu h2

section
variable {T : Tb} {K : PySem.W.Frag} {F H : Hp} {ι : Nat → Addr} {n : Nat} {st : Store} {x y : V} {a b : Val}
theorem DatL.at_ {vs : List V} {ds : List PyData} {i : Int} {d : PyData} (h : DatL K F vs ds) (e : atL ds i = some d) : ∃ v, atI vs i = some v ∧ Dat K F v d := by
  unfold atL atI at e
  unfold atI
  rw [h.length]
  cases q : ixN ds.length i with
  | none => rw [q] at e; cases e
  | some j =>
    rw [q] at e
    exact h.get e
theorem VRelL.at_ {vs : List Val} {xs : List V} {i : Int} {d : Val} (h : VRelL T F ι n vs xs) (e : atL vs i = some d) : ∃ v, atI xs i = some v ∧ VRel T F ι n d v := by
  unfold atL atI at e
  unfold atI
  rw [← h.length]
  cases q : ixN vs.length i with
  | none => rw [q] at e; cases e
  | some j =>
    rw [q] at e
    exact h.get e
theorem DatL.cut {vs : List V} {ds : List PyData} (h : DatL K F vs ds) (lo hi : Option Int) : DatL K F (cutV vs lo hi) (cutL ds lo hi) := by
  unfold cutV cutL
  rw [h.length]
  exact (h.drop _).take _
theorem VRelL.cut {vs : List Val} {xs : List V} (h : VRelL T F ι n vs xs) (lo hi : Option Int) : VRelL T F ι n (cutL vs lo hi) (cutV xs lo hi) := by
  unfold cutV cutL
  rw [h.length]
  exact (h.drop _).take _
/-- a cell that holds a list of anything -/
theorem ml_of {k : Nat} {vs : List Val} (S : Sim T F ι st H) (e : st[k]? = some (.ml vs)) : F (ι k) = none ∧ ∃ xs, H (ι k) = some (.lst xs) ∧ VRelL T F ι st.length vs xs := S.cel k _ e
theorem see_t {xs : List Val} (e : see st a = .t xs) : a = .t xs := by
  cases a with
  | r k =>
    cases h : st[k]? with
    | none => simp [see, h] at e
    | some c => cases q : seeC c <;> simp [see, h, q] at e
  | _ => exact e
theorem see_l {xs : List Val} (e : see st a = .l xs) : a = .l xs := by
  cases a with
  | r k =>
    cases h : st[k]? with
    | none => simp [see, h] at e
    | some c => cases q : seeC c <;> simp [see, h, q] at e
  | _ => exact e
theorem see_r {k : Nat} (e : see st a = .r k) : a = .r k := by
  cases a with
  | r k' =>
    cases h : st[k']? with
    | none => simp [see, h] at e; rw [e]
    | some c => cases q : seeC c <;> simp [see, h, q] at e; rw [e]
  | _ => exact e
end
/-- an item of a list, a tuple, a text -/
def rIdx (T : Tb) : R2 := fun x y H Q => ∃ F ι st a b d, Sim T F ι st H ∧ VRel T F ι st.length a x ∧ VRel T F ι st.length b y ∧ idxV st a b = some d ∧ mkind st a ≠ some .dict ∧ Ans T F H ι st.length d Q
theorem ix_all {X : Cx} {T : Tb} (hK : X.K = T.K) : IxR X (rIdx T) := ixr_by fun x y H Q h => by
  obtain ⟨F, ι, st, a, b, d, S, ra, rb, e, hk, A⟩ := h
  unfold idxV at e
  split at e
  · rename_i dx dy e1
    have h1 := see_seen S ra e1
    cases q : idxD dx dy with
    | none => rw [q] at e; cases e
    | some dd =>
      rw [q] at e
      cases e
      cases rb with
      | p rb =>
        unfold idxD at q
        split at q
        · cases rb
          obtain ⟨p, xs, rfl, r1, l1⟩ := h1.list S.sub
          obtain ⟨v, hv, hd⟩ := l1.at_ q
          exact ⟨_, ix_list, p, xs, _, v, rfl, rfl, .inl r1, hv, A.dat hd⟩
        · cases rb
          obtain ⟨p, xs, rfl, r1, _, l1⟩ := h1.tup S.sub
          obtain ⟨v, hv, hd⟩ := l1.at_ q
          exact ⟨_, ix_tup, p, xs, _, v, rfl, rfl, SqT.of r1, hv, A.dat hd⟩
        · cases rb
          split at q
          · rename_i z i hz
            cases h1.str
            cases q2 : atL z.cps.toList i with
            | none => rw [q2] at q; cases q
            | some c =>
              rw [q2] at q
              cases q
              exact ⟨_, ix_str, _, _, c, rfl, rfl, by rw [← SZ_eq]; exact hz, q2, A.str⟩
          · cases q
        · exact absurd (by unfold mkind; rw [e1]) hk
        · cases q
  · rename_i vs i e1
    cases see_t e1
    cases ra with
    | t h1 h2 =>
      cases rb with
      | p rb =>
        cases rb
        obtain ⟨v, hv, hd⟩ := h2.at_ e
        exact ⟨_, ix_tup, _, _, _, v, rfl, rfl, SqT.of (S.sub.tup h1), hv, A.here hd⟩
  · rename_i vs i e1
    cases see_l e1
    cases ra with
    | l h1 h2 =>
      cases rb with
      | p rb =>
        cases rb
        obtain ⟨v, hv, hd⟩ := h2.at_ e
        exact ⟨_, ix_list, _, _, _, v, rfl, rfl, .inl (S.sub.rd (.inl h1)), hv, A.here hd⟩
  · rename_i k i e1
    cases see_r e1
    split at e
    · rename_i vs e2
      split at e
      · cases ra
        cases rb with
        | p rb =>
          cases rb
          obtain ⟨_, xs, h1, h2⟩ := ml_of S e2
          obtain ⟨v, hv, hd⟩ := h2.at_ e
          exact ⟨_, ix_list, _, _, _, v, rfl, rfl, .inl (.inl h1), hv, A.here hd⟩
      · cases e
    · cases e
  · cases e
theorem valV_get {κ : Type} [DecidableEq κ] (kvs : List (κ × V)) (k : κ) : valV kvs k = (kvs.find? fun q => decide (q.1 = k)).map (·.2) := rfl
theorem DatK.val {K : PySem.W.Frag} {F : Hp} (k : Key) : ∀ {kvs : List (Key × V)} {es : List (PyData × PyData)} {d : PyData}, DatK K F kvs es → getK es (keyD k) = some d → ∃ v, valV kvs k = some v ∧ Dat K F v d
  | _, _, _, .nil, e => by cases e
  | _, _, d, .cons (k := kk) h1 h2, e => by
    unfold getK at e
    rw [valV_get]
    rw [List.find?_cons] at e ⊢
    have q := keyD_eqv kk k
    have q' : keyEq (keyD kk) (keyD k) = decide (kk = k) := q
    simp only [q'] at e
    by_cases z : kk = k
    · rw [decide_eq_true z] at e ⊢
      simp at e
      subst e
      exact ⟨_, rfl, h1⟩
    · rw [decide_eq_false z] at e ⊢
      exact DatK.val k h2 e
theorem DatT.val {K : PySem.W.Frag} {F : Hp} (k : List Key) : ∀ {kvs : List (List Key × V)} {es : List (PyData × PyData)} {d : PyData}, DatT K F kvs es → getK es (.tuple (k.map keyD)) = some d → ∃ v, valV kvs k = some v ∧ Dat K F v d
  | _, _, _, .nil, e => by cases e
  | _, _, d, .cons (k := kk) h1 h2, e => by
    unfold getK at e
    rw [valV_get]
    rw [List.find?_cons] at e ⊢
    have q' : keyEq (.tuple (kk.map keyD)) (.tuple (k.map keyD)) = decide (kk = k) := keyD_eqvAll kk k
    simp only [q'] at e
    by_cases z : kk = k
    · rw [decide_eq_true z] at e ⊢
      simp at e
      subst e
      exact ⟨_, rfl, h1⟩
    · rw [decide_eq_false z] at e ⊢
      exact DatT.val k h2 e
theorem DatK.valT {K : PySem.W.Frag} {F : Hp} (qs : List Key) : ∀ {ks : List (Key × V)} {es : List (PyData × PyData)}, DatK K F ks es → getK es (.tuple (qs.map keyD)) = none
  | _, _, .nil => rfl
  | _, _, .cons (k := k) h1 h2 => by
    unfold getK
    rw [List.find?_cons]
    have z : keyEq (keyD k) (.tuple (qs.map keyD)) = false := by cases k <;> rfl
    simp only [z]
    exact DatK.valT qs h2
theorem DatT.valK {K : PySem.W.Frag} {F : Hp} (q : Key) : ∀ {ks : List (List Key × V)} {es : List (PyData × PyData)}, DatT K F ks es → getK es (keyD q) = none
  | _, _, .nil => rfl
  | _, _, .cons (k := k) h1 h2 => by
    unfold getK
    rw [List.find?_cons]
    have z : keyEq (.tuple (k.map keyD)) (keyD q) = false := by cases q <;> rfl
    simp only [z]
    exact DatT.valK q h2
/-- what a dict of data answers -/
theorem dget_data {K : PySem.W.Frag} {F H : Hp} {x y : V} {kvs : List (PyData × PyData)} {dy d : PyData} (s : Sub F H) (h1 : SeenP K F H x (.dict kvs)) (h2 : SeenP K F H y dy) (hk : keyed dy = true) (e : getK kvs dy = some d) : ∃ a v, x = .ref a ∧ DGet H a y (some v) ∧ Dat K F v d := by
  obtain ⟨p, rfl, hd⟩ := h1.dict s
  cases dy with
  | tuple ds =>
    obtain ⟨b, xs, rfl, hb, _, l1⟩ := h2.tup s
    obtain ⟨qs, rfl, rfl⟩ := keys_of l1 hk
    rcases hd with ⟨ks, r, dk⟩ | ⟨ks, r, dt⟩
    · rw [dk.valT qs] at e
      cases e
    · obtain ⟨v, hv, hd⟩ := dt.val qs e
      exact ⟨p, v, rfl, .inr ⟨ks, qs, b, r, rfl, hb, hv.symm⟩, hd⟩
  | _ =>
    first
      | (cases hk; done)
      | skip
    all_goals
      obtain ⟨q, rfl, e2⟩ := key1_of (h2.flat rfl) hk
      rw [e2] at e
      rcases hd with ⟨ks, r, dk⟩ | ⟨ks, r, dt⟩
      · obtain ⟨v, hv, hd⟩ := dk.val q e
        exact ⟨p, v, rfl, .inl ⟨ks, q, r, rfl, hv.symm⟩, hd⟩
      · rw [dt.valK q] at e
        cases e
end Vm
end

section
/-! V8: items, slices, calls: the evaluator's steps. -/
namespace Vm
open PySem L2 PySem.Spec PyProof.Rows

section
variable {X : Cx} {T : Tb} {W : L2.WX} {Kt : Kit} {e e1 e2 e3 : Expr} {es : List Expr} {pos p2 : Pos}
theorem de_idx {a b : Ex} (hK : X.K = T.K) (hu : X.A.units + 100 < cLine) (hs : PlainIx e2) (h1 : DE X T W e1 (evalX Kt a)) (h2 : DE X T W e2 (evalX Kt b)) : DE X T W (.Subscript e1 e2 pos) (evalX Kt (.idx a b)) :=
  de_by fun σ F ι env st H Q S E p => by
    rw [evalX] at p
    have p1 := PostG.bindE (RA := RV T) p
    by_cases D : ∃ v st1 w st2, evalX Kt a env st = .ok v st1 ∧ evalX Kt b env st1 = .ok w st2 ∧ mkind st2 v = some .dict
    · refine ⟨_, pe_dget (pos := pos) (by omega) h1 h2 hs, tEvG.imp (ev_go S E p1) fun x H1 ⟨F1, ι1, v, st1, M, q1, p2⟩ => ?_⟩
      refine tEvG.imp (ev_go M.sim (E.up M.nx M.le) (PostG.bindE (RA := RV T) p2)) fun y H2 ⟨F2, ι2, w, st2, M2, q2, p3⟩ => ?_
      obtain ⟨v', st1', w', st2', k1, k2, k3⟩ := D
      rw [q1] at k1
      cases k1
      rw [q2] at k2
      cases k2
      obtain ⟨d, e, A⟩ := of_ans M2.sim p3
      have rv := M.rel.up M2.nx M2.le
      unfold idxV at e
      split at e
      · rename_i dx dy e1
        have hx := see_seen M2.sim rv e1
        cases q : idxD dx dy with
        | none => rw [q] at e; cases e
        | some dd =>
          rw [q] at e
          cases e
          have rw_ := M2.rel
          cases rw_ with
          | p rw_ =>
            cases dx with
            | dict kvs =>
              have q : (if keyed dy = true ∧ kindOK kvs dy = true then getK kvs dy else none) = some dd := by
                cases dy <;> exact q
              split at q
              · rename_i hk
                obtain ⟨p, v, rfl, g, hd⟩ := dget_data M2.sim.sub hx (.dat rw_) hk.1 q
                exact ⟨p, v, rfl, g, A.dat hd⟩
              · cases q
            | _ => unfold mkind at k3; rw [e1] at k3; cases k3
      · rename_i e1; unfold mkind at k3; rw [e1] at k3; cases k3
      · rename_i e1; unfold mkind at k3; rw [e1] at k3; cases k3
      · rename_i e1
        split at e
        · rename_i e2; unfold mkind at k3; rw [e1] at k3; simp only [e2] at k3; cases k3
        · cases e
      · cases e
    · refine ⟨_, pe_ix (pos := pos) (ix_all (T := T) hK) h1 h2 hs, tEvG.imp (ev_go S E p1) fun x H1 ⟨F1, ι1, v, st1, M, q1, p2⟩ => ?_⟩
      refine tEvG.imp (ev_go M.sim (E.up M.nx M.le) (PostG.bindE (RA := RV T) p2)) fun y H2 ⟨F2, ι2, w, st2, M2, q2, p3⟩ => ?_
      obtain ⟨d, e, A⟩ := of_ans M2.sim p3
      exact ⟨F2, ι2, st2, v, w, d, M2.sim, M.rel.up M2.nx M2.le, M2.rel, e, fun z => D ⟨v, st1, w, st2, q1, q2, z⟩, A⟩

/-! ### slices -/
abbrev DO (X : Cx) (T : Tb) (W : L2.WX) (e : Option Expr) (f : Env → Store → R (Option Int)) : Prop := PO X e (tEvG RE T W f)
theorem po_imp {e : Option Expr} {t t' : TO} (h : PO X e t) (i : ∀ σ H Q, t' σ H Q → t σ H Q) : PO X e t' := ⟨fun pins s σ H Q I q => h.run pins s σ H Q I (i _ _ _ q)⟩
theorem do_nil : DO X T W none (evalO Kt .nil) := po_imp po_none fun σ H Q hh => by
  obtain ⟨F, ι, env, st, S, E, p⟩ := hh
  rw [evalO] at p
  exact p.now (Next.refl _ _ _) (Nat.le_refl _) S rfl
theorem do_some {a b : Ex} (h1 : DE X T W e (evalX Kt a)) : DO X T W (some e) (evalO Kt (.cons a b)) := po_imp (po_some h1) fun σ H Q hh => by
  obtain ⟨F, ι, env, st, S, E, p⟩ := hh
  rw [evalO] at p
  refine tEvG.imp (ev_go S E (PostG.bind (RA := RV T) p)) fun x H1 ⟨F1, ι1, v, st1, M, p1⟩ => ?_
  split at p1
  · have r := M.rel
    cases r with
    | p r =>
      cases r
      exact ⟨_, rfl, p1.now (Next.refl _ _ _) (Nat.le_refl _) M.sim rfl⟩
  · exact p1.elim
def rSlc (T : Tb) : V → Option Int → Option Int → Hp → VK → Prop := fun x lo hi H Q => ∃ F ι st a d, Sim T F ι st H ∧ VRel T F ι st.length a x ∧ slcV st lo hi a = some d ∧ Ans T F H ι st.length d Q
theorem sl_all {X : Cx} {T : Tb} (hK : X.K = T.K) : SlR X (rSlc T) := slr_by fun x lo hi H Q h => by
  obtain ⟨F, ι, st, a, d, S, ra, e, A⟩ := h
  unfold slcV at e
  split at e
  · rename_i dx e1
    have h1 := see_seen S ra e1
    cases q : slcD lo hi dx with
    | none => rw [q] at e; cases e
    | some dd =>
      rw [q] at e
      cases e
      unfold slcD at q
      split at q
      · cases q
        obtain ⟨p, xs, rfl, r1, l1⟩ := h1.list S.sub
        exact ⟨_, sl_list, p, xs, rfl, .inl r1, A.lst S.sub (l1.cut lo hi)⟩
      · cases q
        obtain ⟨p, xs, rfl, r1, f1, l1⟩ := h1.tup S.sub
        refine ⟨_, sl_tupA, p, xs, rfl, SqT.of r1, fun z => ?_, fun _ => A.tup S.sub (l1.cut lo hi)⟩
        refine A.dat (.tup f1 ?_)
        have : cutV xs lo hi = xs := by
          unfold cutV
          rw [z.1, z.2]
          simp
        rw [← this]
        exact l1.cut lo hi
      · split at q
        · cases q
          cases h1.str
          rename_i hz
          exact ⟨_, sl_str, _, rfl, by rw [← SZ_eq]; exact hz, A.str⟩
        · cases q
      · cases q
  · rename_i vs e1
    cases see_t e1
    cases e
    cases ra with
    | t h1 h2 =>
      rename_i p xs
      refine ⟨_, sl_tupA, p, xs, rfl, SqT.of (S.sub.tup h1), fun z => ?_, fun _ => A.mkT S.sub (h2.cut lo hi)⟩
      have : cutV xs lo hi = xs := by
        unfold cutV
        rw [z.1, z.2]
        simp
      refine A.here (mkT_rel h1 ?_)
      rw [← this]
      exact h2.cut lo hi
  · rename_i vs e1
    cases see_l e1
    cases e
    cases ra with
    | l h1 h2 => exact ⟨_, sl_list, _, _, rfl, .inl (S.sub.rd (.inl h1)), A.mkL S.sub (h2.cut lo hi)⟩
  · cases e
theorem de_slc {a b c : Ex} {lo hi : Option Expr} (hK : X.K = T.K) (h1 : DE X T W e1 (evalX Kt a)) (h2 : DO X T W lo (evalO Kt b)) (h3 : DO X T W hi (evalO Kt c)) : DE X T W (.Subscript e1 (.Slice lo hi none p2) pos) (evalX Kt (.slc a b c)) :=
  de_by fun σ F ι env st H Q S E p => by
    rw [evalX] at p
    refine ⟨_, pe_slice (p2 := p2) (pos := pos) (sl_all (T := T) hK) h1 h2 h3, tEvG.imp (ev_go S E (PostG.bind (RA := RV T) p)) fun x H1 ⟨F1, ι1, v, st1, M, p1⟩ => ?_⟩
    have E1 := E.up M.nx M.le
    refine tEvG.imp (ev_go M.sim E1 (PostG.bind (RA := RE) p1)) fun i H2 ⟨F2, ι2, i', st2, M2, p2⟩ => ?_
    have hi' : i' = i := M2.rel
    subst hi'
    refine tEvG.imp (ev_go M2.sim (E1.up M2.nx M2.le) (PostG.bind (RA := RE) p2)) fun j H3 ⟨F3, ι3, j', st3, M3, p3⟩ => ?_
    have hj' : j' = j := M3.rel
    subst hj'
    obtain ⟨d, e, A⟩ := of_ans M3.sim p3
    exact ⟨F3, ι3, st3, v, d, M3.sim, (M.rel.up M2.nx M2.le).up M3.nx M3.le, e, A⟩
theorem seqL_seen {F H : Hp} {ι : Nat → Addr} {st : Store} {a : Val} {x : V} {vs : List Val} (S : Sim T F ι st H) (r : VRel T F ι st.length a x) (e : seqL st a = some vs) : ∃ p xs, x = .ref p ∧ Rd H p (.lst xs) ∧ VRelL T F ι st.length vs xs := by
  unfold seqL at e
  split at e
  · rename_i ds e1
    cases e
    obtain ⟨p, xs, rfl, r1, l1⟩ := (see_seen S r e1).list S.sub
    exact ⟨p, xs, rfl, r1, .ofDat l1⟩
  · rename_i ws e1
    cases see_l e1
    cases e
    cases r with
    | l h1 h2 => exact ⟨_, _, rfl, S.sub.rd (.inl h1), h2⟩
  · rename_i k e1
    cases see_r e1
    split at e
    · rename_i ws e2
      cases e
      cases r
      obtain ⟨_, xs, h1, h2⟩ := ml_of S e2
      exact ⟨_, xs, rfl, .inl h1, h2⟩
    · cases e
  · cases e
/-- a slice of a list, as a cell -/
theorem de_cut {f : Nat} {a b c : Ex} {lo hi : Option Expr} (h1 : DE X T W e1 (evalX Kt a)) (h2 : DO X T W lo (evalO Kt b)) (h3 : DO X T W hi (evalO Kt c)) : DE X T W (.Subscript e1 (.Slice lo hi none p2) pos) (evalX Kt (.cut f a b c)) :=
  de_by fun σ F ι env st H Q S E p => by
    rw [evalX] at p
    refine ⟨_, pe_slice (p2 := p2) (pos := pos) sl_list h1 h2 h3, tEvG.imp (ev_go S E (PostG.bind (RA := RV T) p)) fun x H1 ⟨F1, ι1, v, st1, M, p1⟩ => ?_⟩
    have E1 := E.up M.nx M.le
    refine tEvG.imp (ev_go M.sim E1 (PostG.bind (RA := RE) p1)) fun i H2 ⟨F2, ι2, i', st2, M2, p2⟩ => ?_
    have hi' : i' = i := M2.rel
    subst hi'
    refine tEvG.imp (ev_go M2.sim (E1.up M2.nx M2.le) (PostG.bind (RA := RE) p2)) fun j H3 ⟨F3, ι3, j', st3, M3, p3⟩ => ?_
    have hj' : j' = j := M3.rel
    subst hj'
    cases q : seqL st3 v with
    | none => rw [q] at p3; exact p3.elim
    | some vs =>
      rw [q] at p3
      obtain ⟨p, xs, rfl, r1, l1⟩ := seqL_seen M3.sim ((M.rel.up M2.nx M2.le).up M3.nx M3.le) q
      exact ⟨p, xs, rfl, .inl r1, alloc_post M3.sim (l1.cut i' j') p3⟩
/-- a sum of two lists, as a cell -/
theorem de_cat {f : Nat} {a b : Ex} (h1 : DE X T W e1 (evalX Kt a)) (h2 : DE X T W e2 (evalX Kt b)) : DE X T W (.BinOp e1 .Add e2 pos) (evalX Kt (.cat f a b)) :=
  de_by fun σ F ι env st H Q S E p => by
    rw [evalX] at p
    refine ⟨_, pe_op (pos := pos) op_catR h1 h2, tEvG.imp (ev_go S E (PostG.bind (RA := RV T) p)) fun x H1 ⟨F1, ι1, v, st1, M, p1⟩ => ?_⟩
    refine tEvG.imp (ev_go M.sim (E.up M.nx M.le) (PostG.bind (RA := RV T) p1)) fun y H2 ⟨F2, ι2, w, st2, M2, p2⟩ => ?_
    split at p2
    · rename_i xs ys k1 k2
      split at p2
      · rename_i hz
        obtain ⟨p, us, rfl, r1, l1⟩ := seqL_seen M2.sim (M.rel.up M2.nx M2.le) k1
        obtain ⟨p', us', rfl, r2, l2⟩ := seqL_seen M2.sim M2.rel k2
        exact ⟨p, p', us, us', rfl, rfl, r1, r2, by rw [← l1.length, ← l2.length, ← SZ_eq]; exact hz, alloc_post M2.sim (l1.append l2) p2⟩
      · exact p2.elim
    · exact p2.elim
end
end Vm
end

section
/-! V9: what a def promises, where no guard stands. -/
namespace Vm
open PySem L2 PySem.Spec PyProof.Rows

/-- L2.FnOk, asked only where no repr runs -/
structure FnG (P : Program) (w : World) (K : PySem.W.Frag) (mg : Str → Option Value) (base : Heap) (k : Nat) (f : Addr) (fd : FuncData) (ps : List Str) (sp : Sp) : Prop where
  len : ∀ vs H Q E, sp vs H Q E → vs.length = ps.length
  run : ∀ (A : Around) (outer : List PySem.Env) (s : Shared) (H : Hp) (args : Args) (us : List Value) (vs : List V) (Q : VK) (E : XK), Room k A → A.guards = some [] → Env0 P w K mg base A outer s H → BindsTo s fd args (ps.zip us) → Vals vs us → sp vs H Q E →
    codeAny (model P w) A (.call (.ref f) args) (CR (L2.CX P w) outer P w H s Q E) s
section
variable {X : Cx} {k : Nat} {f C : Addr} {fd : FuncData} {ps : List Str} {sp : Sp} {E : L2.St → XK} {x m : Str} {p pos apos : Pos} {e o : Expr} {es : List Expr} {ta : TE} {t : TA}
theorem run_fnG {pins : List (Addr × Obj)} {σ : L2.St} {H : Hp} {s : Shared} {Q : VK} {us : List Value} {vs : List V} (F : FnG X.prog X.w X.K X.mg X.base k f fd ps sp) (hr : Room k X.A) (hG : X.A.guards = some []) (hb : Binds X.K fd ps []) (hx : PassesAt (L2.CX X.prog X.w) X σ (E σ))
    (I : Inv X pins σ H s) (r : Vals vs us) (h : sp vs H Q (E σ)) : wpAny (model X.prog X.w) X.A (call (.ref f) us) (EP X pins σ Q) X.xe s := by
  have hl : us.length = ps.length := by rw [← r.length]; exact F.len _ _ _ _ h
  have b := hb s us I.kIn (by rw [List.append_nil]; exact hl)
  rw [List.append_nil] at b
  refine wpAny_call (codeAny_mono (F.run X.A X.stack s H ⟨us, []⟩ us vs Q (E σ) hr hG I.env0 b r h) fun r s' hq => ?_)
  cases r with
  | error e => exact hx pins H s e s' I hq
  | ok fl =>
    cases fl with
    | ret u => exact I.after hq
    | next => exact False.elim hq
    | brk => exact False.elim hq
    | cont => exact False.elim hq
theorem pe_callG (F : FnG X.prog X.w X.K X.mg X.base k f fd ps sp) (hr : Room k X.A) (hG : X.A.guards = some []) (hg : Gl X x) (hm : X.mg x = some (.ref f)) (hk : PySem.W.keepIn X.K (.ref f) = true) (hb : Binds X.K fd ps []) (hx : ∀ σ, PassesAt (L2.CX X.prog X.w) X σ (E σ))
    (ha : PA X (e :: es) t) (hdb : (x == ("__debug__" : Str)) = false := by decide) (he : starEach (e :: es) X.env = (false, eval e X.env) :: starEach es X.env := by rfl) (hpl : (backTo pos (starEach es X.env)).any (·.1) = false := by rfl) :
    PE X (.Call (.Name x p) (e :: es) [] pos) (tCallS sp E t) := by
  refine ⟨fun pins s σ H Q I h => ?_⟩
  refine wpAny_Call_Name_kw (ld_glob I hg hm ?_ hdb)
  refine PySem.W.callWith_K (h₀ := X.base) I.ok.mod.kin hk (thn (ha.run pos pins s σ H _ I h) fun us s1 ⟨vs, H1, I1, r, q⟩ => ⟨I1.kIn, ?_⟩) he hpl
  exact run_fnG F hr hG hb (hx σ) I1 r q
end
theorem fnG_of {P : Program} {w : World} {K : PySem.W.Frag} {mg : Str → Option Value} {base : Heap} {k : Nat} {f : Addr} {name qual : Str} {params : Arguments} {body : List Stmt} {scope : Scope} {dV kV doc pm cdv ct oc : Value} {an od : Option Addr}
    {osl : Array (Option Value)} {N ps : List Str} {sp : Sp} (lk : K.lookup f = some ⟨oc, od, .func (PySem.W.fnOf name qual params body scope dV kV doc pm an cdv ct), osl⟩) (hcd : PySem.W.codeIn K cdv qual = true) (S : FnScope N ps scope)
    (len : ∀ vs H Q E, sp vs H Q E → vs.length = ps.length)
    (hbody : ∀ (A : Around) (outer : List PySem.Env) (s : Shared) (H : Hp) (vs : List V) (Q : VK) (E : XK), Room k (A.deeper (envOfC qual scope s.heap.objs.size f cdv)) → A.guards = some [] → sp vs H Q E →
      ∃ t, PSs (cxOf (L2.CX P w) P w K mg base N qual scope f cdv A outer s H E) body t ∧ t { nx := fun _ H' => Q .non H', rt := Q } (start N vs) H) :
    FnG P w K mg base (k + 1) f (PySem.W.fnOf name qual params body scope dV kV doc pm an cdv ct) ps sp := by
  refine ⟨len, fun A outer s H args us vs Q E hr hG e0 hb r hsp => ?_⟩
  have hl := len _ _ _ _ hsp
  have KX : K.In s.heap := e0.mod.kin.keeps fun b o e => (e0.bs b o e).1
  have lim : s.heap.NoLimit := e0.mod.nolimit.keeps fun b o e => (e0.bs b o e).1
  have hkind : ∀ y ∈ ps.zip us, scope.names.lookup y.1 = some .local ∨ (scope.names.lookup y.1 = some .cell ∧ ((cellsFrom (s.heap.objs.size + 1) scope.names []).lookup y.1).isSome = true) := fun ⟨n, v⟩ hy => by
    rcases S.par n (List.of_mem_zip hy).1 with q | q
    · exact .inl q
    · exact .inr ⟨q, PySem.W.cellsFrom_some _ _ _ (.inl q)⟩
  refine codeAny_call_function hr.depth (KX _ _ lk) rfl S.co S.gen rfl (PySem.W.codeRec_of KX hcd) (hb _ _ _ _ ?_)
  refine wpAny_newFunctionEnv_cells S.kind hkind fun env he s1 x => ?_
  subst he
  refine ⟨lim.keeps x.toInCall.keep, codeAny_func ?_⟩
  obtain ⟨t, ht, hq⟩ := hbody A outer s H vs Q E (hr.deeper _) hG hsp
  have I : Inv (cxOf (L2.CX P w) P w K mg base N qual scope f cdv A outer s H E) [] (start N vs) H s1 := inv_start S hr.hd e0 hl r x
  refine wpAny_mono (ht.run [] s1 (start N vs) H _ I hq) (fun fl s' hs => ?_) fun e s' hs => hs
  have fin : ∀ {σ' : L2.St} {H' : Hp} {v : V} {u : Value}, Inv (cxOf (L2.CX P w) P w K mg base N qual scope f cdv A outer s H E) [] σ' H' s' → RelV v u → Q v H' → CE outer P w H s Q u s' :=
    fun {σ' H' v u} J rv q => ⟨v, H', J.os, J.bare, J.base, J.hok, rv, q⟩
  cases fl with
  | ret u =>
    obtain ⟨v, σ', H', J, rv, q⟩ := hs
    exact fin J rv q
  | next =>
    obtain ⟨σ', H', J, q⟩ := hs
    exact fin (v := V.non) (u := Value.none) J rfl q
  | brk =>
    obtain ⟨_, _, _, q⟩ := hs
    exact False.elim q
  | cont =>
    obtain ⟨_, _, _, q⟩ := hs
    exact False.elim q
theorem Fun.okG {P : Program} {w : World} {K : PySem.W.Frag} {mg : Str → Option Value} {base : Heap} {x qual : Str} {st : Stmt} {f : Addr} {fd : FuncData} {N ps : List Str} {k : Nat} {sp : Sp} (F : L2.Fun K x qual st f fd) (S : FnScope N ps (defScope st)) (len : ∀ vs H Q E, sp vs H Q E → vs.length = ps.length)
    (hbody : ∀ (cdv : Value) (A : Around) (outer : List PySem.Env) (s : Shared) (H : Hp) (vs : List V) (Q : VK) (E : XK), Room k (A.deeper (envOfC qual (defScope st) s.heap.objs.size f cdv)) → A.guards = some [] → sp vs H Q E →
      ∃ t, PSs (cxOf (L2.CX P w) P w K mg base N qual (defScope st) f cdv A outer s H E) (defBody st) t ∧ t { nx := fun _ H' => Q .non H', rt := Q } (start N vs) H) : FnG P w K mg base (k + 1) f fd ps sp := by
  obtain ⟨oc, od, kV, doc, pm, an, cdv, ct, osl, rfl, lk, hcd⟩ := F.ex
  exact fnG_of lk hcd S len fun A outer s H vs Q E hr hG hsp => hbody cdv A outer s H vs Q E hr hG hsp
/-- the call of the law, from a heap that tracks at most the script -/
theorem law_core {P : Program} {w : World} {K : PySem.W.Frag} {mg mb : Str → Option Value} {k : Nat} {fa a : Addr} {fd : FuncData} {x : Str} {sp : Sp} {s₁ : Shared} {vs : List Value}
    (KX : K.In s₁.heap) (hns : s₁.heap.Ns mainGlobals mg) (hb : s₁.heap.Ns builtinsNs mb) (hbb : ∀ x : Str, x ≠ "__name__" → mb x = bootBuiltins x) (hlim : s₁.heap.NoLimit) (hg : s₁.gens = #[])
    (ha : s₁.heap.get? a = some { cls := .type "list", data := .seq vs.toArray }) (hr : Room k callerA)
    (F : ∀ base : Heap, K.In base → base.Ns mainGlobals mg → FnG P w K mg base k fa fd [x] sp) (hbind : ∀ (s : Shared) (u : Value), BindsTo s fd ⟨[u], []⟩ [(x, u)])
    (hCX : ∀ H e s', L2.CX P w [] H s₁ (fun _ _ _ => False) e s' → False) (H : Hp) (hO : Only H) (hq : sp [.ref a] H (fun v _ => v = .bl true) fun _ _ _ => False) (hok : HOk P w H s₁.heap) (hA : ∀ b, H b ≠ none → b = a) (hK : H a ≠ none → K.lookup a = none) :
      codeAny (model P w) callerA (.call (.ref fa) ⟨[.ref a], []⟩) (fun r s' => r = .ok (.ret (.bool true)) ∧ OldK s₁.heap s'.heap ∧ s'.os = s₁.os ∧ AllBare s'.gens) s₁ := by
  have base_of : ∀ {b : Addr} {o : Obj}, s₁.heap.get? b = some o → H b = none → (hidT s₁.heap H).get? b = some o := fun e n => hidT_get e n
  have noA : ∀ {b : Addr} {o : Obj} {es : Array DictEntry} {ep : Nat}, s₁.heap.get? b = some o → o.data = .dict es ep → H b = none := fun {b o es ep} e d => by
    cases q : H b with
    | none => rfl
    | some u =>
      have e' : b = a := hA b (by rw [q]; simp)
      subst e'
      rw [ha] at e; cases e
      have d' : Data.seq vs.toArray _ = Data.dict es ep := d
      cases d'
  have nsK : ∀ {b : Addr} {m : Str → Option Value}, s₁.heap.Ns b m → (hidT s₁.heap H).Ns b m := fun {b m} ⟨o, es, ep, e, d, r⟩ => ⟨o, es, ep, base_of e (noA e d), d, r⟩
  have hKb : K.In (hidT s₁.heap H) := fun b o e => base_of (KX b o e) (by
    cases q : H b with
    | none => rfl
    | some u =>
      have e' : b = a := hA b (by rw [q]; simp)
      subst e'
      rw [hK (by rw [q]; simp)] at e; cases e)
  have hM : Mod K mg (hidT s₁.heap H) := ⟨hKb, nsK hns, ⟨mb, nsK hb, hbb⟩, let ⟨mc, h1, h2⟩ := hlim; ⟨mc, nsK h1, h2⟩⟩
  have e0 : Env0 P w K mg (hidT s₁.heap H) callerA [] s₁ H := ⟨rfl, hM, fun b o e => of_hidT e, Nat.le_of_eq (hidT_size _ _), trivial, fun b hb => absurd (show b ∈ ([] : List Addr) from hb) (by simp), hok, .of_eq hg⟩
  refine codeAny_mono ((F _ hKb (nsK hns)).run callerA [] s₁ H ⟨[.ref a], []⟩ [.ref a] [.ref a] _ _ hr rfl e0 (hbind s₁ (.ref a)) (.cons rfl .nil) hq) fun r s' h => ?_
  cases r with
  | error e => exact (hCX H e s' h).elim
  | ok fl =>
    cases fl with
    | next => exact False.elim h
    | brk => exact False.elim h
    | cont => exact False.elim h
    | ret u =>
      obtain ⟨v, H', os, bare, un, hok', r', q⟩ := h
      have q' : v = .bl true := q
      subst q'
      obtain rfl : u = Value.bool true := r'
      refine ⟨rfl, OldK.of_keep fun b o e => ?_, os, bare⟩
      cases q : H b with
      | none => exact un.keep b o e q (by intro z; exact absurd (show b ∈ ([] : List Addr) from z) (by simp)) (by simp)
      | some u =>
        rcases hO b with z | ⟨ob, xs, z⟩
        · rw [q] at z; cases z
        · have z2 := un.frzs b ob _ z
          obtain ⟨e1, _⟩ := hok b _ z
          obtain ⟨e2, _⟩ := hok' b _ z2
          rw [e] at e1; cases e1
          exact e2
/-- the head's end, with our promise -/
theorem law_callG {P : Program} {w : World} {K : PySem.W.Frag} {mg mb : Str → Option Value} {k : Nat} {fa a : Addr} {fd : FuncData} {x : Str} {sp : Sp} {s₁ : Shared} {vs : List Value} {ns : List Int}
    (KX : K.In s₁.heap) (hns : s₁.heap.Ns mainGlobals mg) (hb : s₁.heap.Ns builtinsNs mb) (hbb : ∀ x : Str, x ≠ "__name__" → mb x = bootBuiltins x) (hlim : s₁.heap.NoLimit) (hg : s₁.gens = #[])
    (ha : s₁.heap.get? a = some { cls := .type "list", data := .seq vs.toArray }) (hi : IntsAre vs ns) (hl : ns.length ≤ sizeLine) (hr : Room k callerA)
    (F : ∀ base : Heap, K.In base → base.Ns mainGlobals mg → FnG P w K mg base k fa fd [x] sp) (hbind : ∀ (s : Shared) (u : Value), BindsTo s fd ⟨[u], []⟩ [(x, u)])
    (hsp : ∀ H : Hp, Only H → SqL K H a (ns.map V.int) → sp [.ref a] H (fun v _ => v = .bl true) fun _ _ _ => False)
    (hCX : ∀ H e s', L2.CX P w [] H s₁ (fun _ _ _ => False) e s' → False) :
    codeAny (model P w) callerA (.call (.ref fa) ⟨[.ref a], []⟩) (fun r s' => r = .ok (.ret (.bool true)) ∧ OldK s₁.heap s'.heap ∧ s'.os = s₁.os ∧ AllBare s'.gens) s₁ := by
  have rv := vals_ints hi
  have lenV := hi.length
  have core : ∀ H : Hp, Only H → SqL K H a (ns.map V.int) → HOk P w H s₁.heap → (∀ b, H b ≠ none → b = a) → (H a ≠ none → K.lookup a = none) →
      codeAny (model P w) callerA (.call (.ref fa) ⟨[.ref a], []⟩) (fun r s' => r = .ok (.ret (.bool true)) ∧ OldK s₁.heap s'.heap ∧ s'.os = s₁.os ∧ AllBare s'.gens) s₁ := fun H hO hS hok hA hK =>
    law_core KX hns hb hbb hlim hg ha hr F hbind hCX H hO (hsp H hO hS) hok hA hK
  cases hk : K.lookup a with
  | some o =>
    have e := KX a o hk
    rw [ha] at e
    cases e
    refine core (fun _ => none) (fun _ => .inl rfl) (.inr ⟨_, vs.toArray, _, hk, rfl, rfl, rfl, by rw [List.size_toArray, lenV]; exact hl, by simpa using rv⟩) (fun b u z => by have z' : (none : Option HO) = some u := z; cases z') (fun b z => absurd rfl z) fun z => absurd rfl z
  | none =>
    refine core (fun b => if b = a then some (.frz { cls := .type "list", data := .seq vs.toArray } (.lst (ns.map V.int))) else none) (fun b => ?_) (.inl (.inr ⟨{ cls := .type "list", data := .seq vs.toArray }, if_pos rfl⟩)) (fun b u z => ?_) (fun b z => ?_) fun _ => hk
    · by_cases hb : b = a
      · exact .inr ⟨_, _, if_pos hb⟩
      · exact .inl (if_neg hb)
    · by_cases hb : b = a
      · have z' := (if_pos hb).symm.trans z
        cases z'
        subst hb
        exact ⟨ha, by rw [List.length_map]; exact hl, vs, _, rv, ha⟩
      · have z' := (if_neg hb).symm.trans z
        cases z'
    · by_cases hb : b = a
      · exact hb
      · exact absurd (if_neg hb) z
theorem cx_none {P : Program} {w : World} {H : Hp} {s : Shared} {e : Value} {s' : Shared} (h : L2.CX P w [] H s (fun _ _ _ => False) e s') : False := by
  obtain ⟨_, _, _, _, _, _, _, _, _, _, _, _, z⟩ := h
  exact z
theorem walk_ofG {l : PySem.W.OpenLaw} {n k : Nat} {q : Program} {loose : List Str} {XP : (Str → Option Value) → Heap → Prop} {YP : World → Heap → Prop} {d : DefRec} {x : Str}
    (hn : l.most = some n) (hn2 : n ≤ sizeLine) (hdf : d.params.defaults = []) (hr : Room k callerA)
    (F : ∀ (w : World) (mg : Str → Option Value) (fa : Addr) (h : Heap), YP w h → h.Ns mainGlobals mg → mg d.name = some (.ref fa) →
      ∃ (K : PySem.W.Frag) (fd : FuncData) (sp : Sp), K.In h ∧ (∀ (s : Shared) (u : Value), BindsTo s fd ⟨[u], []⟩ [(x, u)]) ∧
        (∀ (H : Hp) (a : Addr) (ns : List Int), ns.length ≤ n → Only H → SqL K H a (ns.map V.int) → sp [.ref a] H (fun v _ => v = .bl true) fun _ _ _ => False) ∧
        ∀ base : Heap, K.In base → base.Ns mainGlobals mg → FnG l.prog w K mg base k fa fd [x] sp) :
    PySem.W.WalkO q loose XP YP l.row.toRowW d [] (fun f vs => PySem.call f vs) := by
  refine Att.attach_call hn hdf fun w s₀ s₁ mg mb fa o pm cd doc a vs ns G Y ho hd hcd hmg hobj hints hlen hg => ?_
  obtain ⟨K, fd, sp, KX, hb, hsp, hF⟩ := F w mg fa _ Y G.T.g hmg
  exact law_callG KX G.T.g G.T.b G.T.builtins G.T.nolimit hg hobj hints (Nat.le_trans hlen hn2) hr hF hb (fun H hO hS => hsp H a ns hlen hO hS) fun H e s' => cx_none
end Vm
end

section
/-! V10: built-ins by their values. -/
namespace Vm
open PySem L2 PySem.Spec PyProof.Rows

section
variable {T : Tb} {K : PySem.W.Frag} {F F' H H' : Hp} {ι : Nat → Addr} {n : Nat} {st : Store} {x y z : V} {a b c : Val} {d e : PyData} {Q : VK}
theorem VRelL.one {v : Val} {xs : List V} (h : VRelL T F ι n [v] xs) : ∃ x, xs = [x] ∧ VRel T F ι n v x := by
  cases h with
  | cons h1 h2 => cases h2; exact ⟨_, rfl, h1⟩
theorem VRelL.two {v w : Val} {xs : List V} (h : VRelL T F ι n [v, w] xs) : ∃ x y, xs = [x, y] ∧ VRel T F ι n v x ∧ VRel T F ι n w y := by
  cases h with
  | cons h1 h2 =>
    obtain ⟨y, rfl, h3⟩ := h2.one
    exact ⟨_, _, rfl, h1, h3⟩
/-- read with mixed lists -/
theorem seeM_p (S : Sim T F ι st H) (r : VRel T F ι st.length a x) (e : seeM st a = .p d) : SeenP T.K F H x d := by
  unfold seeM at e
  split at e
  · split at e <;> cases e
  · exact see_seen S r e
theorem seeM_l {xs : List Val} (S : Sim T F ι st H) (r : VRel T F ι st.length a x) (e : seeM st a = .l xs) : ∃ p ys, x = .ref p ∧ Rd H p (.lst ys) ∧ VRelL T F ι st.length xs ys := by
  unfold seeM at e
  split at e
  · rename_i k hk
    split at e
    · rename_i vs hv
      cases e
      cases see_r hk
      cases r with
      | r hl =>
        obtain ⟨_, ys, h1, h2⟩ := ml_of S hv
        exact ⟨_, ys, rfl, .inl h1, h2⟩
    · cases e
  · cases see_l e
    cases r with
    | l h1 h2 => exact ⟨_, _, rfl, S.sub.rd (.inl h1), h2⟩
theorem seeM_t {xs : List Val} (S : Sim T F ι st H) (r : VRel T F ι st.length a x) (e : seeM st a = .t xs) : ∃ p ys, x = .ref p ∧ H p = some (.tup ys) ∧ F p = some (.tup ys) ∧ VRelL T F ι st.length xs ys := by
  unfold seeM at e
  split at e
  · rename_i k hk
    split at e <;> cases e
  · cases see_t e
    cases r with
    | t h1 h2 => exact ⟨_, _, rfl, S.sub.tup h1, h1, h2⟩
theorem Ans.newL {vs : List Val} {xs : List V} (h : Ans T F H ι n (.l vs) Q) (s : Sub F H) (r : VRelL T F ι n vs xs) : ∀ p, H p = none → Q (.ref p) (upd H p (.lst xs)) := fun p hp =>
  h _ _ _ (FX.one hp s) (.l upd_same (r.up (FX.one (o := .lst xs) hp s).next (Nat.le_refl _)))
theorem Ans.newT {vs : List Val} {xs : List V} (h : Ans T F H ι n (.t vs) Q) (s : Sub F H) (r : VRelL T F ι n vs xs) : ∀ p, H p = none → Q (.ref p) (upd H p (.tup xs)) := fun p hp =>
  h _ _ _ (FX.one hp s) (.t upd_same (r.up (FX.one (o := .tup xs) hp s).next (Nat.le_refl _)))
theorem DatL.bools : ∀ {ds : List PyData} {bs : List Bool} {xs : List V}, DatL K F xs ds → boolsOf ds = some bs → xs = bs.map V.bl
  | [], _, _, .nil, e => by cases e; rfl
  | .bool b :: ds, bs, _, .cons h1 h2, e => by
    cases h1
    cases q : boolsOf ds with
    | none => rw [boolsOf, q] at e; cases e
    | some cs =>
      rw [boolsOf, q] at e
      cases e
      rw [DatL.bools h2 q]
      rfl
  | .none :: _, _, _, .cons _ _, e => by cases e
  | .int _ :: _, _, _, .cons _ _, e => by cases e
  | .str _ :: _, _, _, .cons _ _, e => by cases e
  | .list _ :: _, _, _, .cons _ _, e => by cases e
  | .tuple _ :: _, _, _, .cons _ _, e => by cases e
  | .dict _ :: _, _, _, .cons _ _, e => by cases e
theorem DatL.intsOf : ∀ {ds : List PyData} {bs : List Int} {xs : List V}, DatL K F xs ds → intsOf ds = some bs → xs = bs.map V.int
  | [], _, _, .nil, e => by cases e; rfl
  | .int b :: ds, bs, _, .cons h1 h2, e => by
    cases h1
    cases q : Vm.intsOf ds with
    | none => rw [Vm.intsOf, q] at e; cases e
    | some cs =>
      rw [Vm.intsOf, q] at e
      cases e
      rw [DatL.intsOf h2 q]
      rfl
  | .none :: _, _, _, .cons _ _, e => by cases e
  | .bool _ :: _, _, _, .cons _ _, e => by cases e
  | .str _ :: _, _, _, .cons _ _, e => by cases e
  | .list _ :: _, _, _, .cons _ _, e => by cases e
  | .tuple _ :: _, _, _, .cons _ _, e => by cases e
  | .dict _ :: _, _, _, .cons _ _, e => by cases e
theorem DatL.strsOf : ∀ {ds : List PyData} {bs : List Str} {xs : List V}, DatL K F xs ds → strsOf ds = some bs → xs = bs.map V.str
  | [], _, _, .nil, e => by cases e; rfl
  | .str b :: ds, bs, _, .cons h1 h2, e => by
    cases h1
    cases q : Vm.strsOf ds with
    | none => rw [Vm.strsOf, q] at e; cases e
    | some cs =>
      rw [Vm.strsOf, q] at e
      cases e
      rw [DatL.strsOf h2 q]
      rfl
  | .none :: _, _, _, .cons _ _, e => by cases e
  | .bool _ :: _, _, _, .cons _ _, e => by cases e
  | .int _ :: _, _, _, .cons _ _, e => by cases e
  | .list _ :: _, _, _, .cons _ _, e => by cases e
  | .tuple _ :: _, _, _, .cons _ _, e => by cases e
  | .dict _ :: _, _, _, .cons _ _, e => by cases e
theorem DatK.keys : ∀ {kvs : List (Key × V)} {es : List (PyData × PyData)}, DatK K F kvs es → DatL K F (kvs.map fun kv => kV kv.1) (es.map (·.1))
  | _, _, .nil => .nil
  | _, _, .cons (k := k) _ h => .cons (by cases k with | inl i => exact .int i | inr x => exact .str x) (DatK.keys h)
end
/-- what a built-in answers -/
def rBi (T : Tb) (b : Bi) : List V → Hp → VK → Prop := fun xs H Q => ∃ F ι st vs d, Sim T F ι st H ∧ VRelL T F ι st.length vs xs ∧ biV b vs st = some d ∧ Ans T F H ι st.length d Q
section
variable {T : Tb} {b : Bi} {xs : List V} {H : Hp} {Q : VK}
/-- .. by cases -/
theorem rBi.cases (h : rBi T b xs H Q) : (∃ F ι st x d d', Sim T F ι st H ∧ xs = [x] ∧ SeenP T.K F H x d ∧ biD b d = some d' ∧ Ans T F H ι st.length (.p d') Q) ∨
    (∃ F ι st vs p ys, Sim T F ι st H ∧ xs = [.ref p] ∧ VRelL T F ι st.length vs ys ∧ (Rd H p (.lst ys) ∨ H p = some (.tup ys)) ∧
      ((b = .len ∧ Ans T F H ι st.length (.p (.int vs.length)) Q) ∨ (b = .list ∧ Ans T F H ι st.length (.l vs) Q) ∨ (b = .tuple ∧ Ans T F H ι st.length (.t vs) Q ∧ (H p = some (.tup ys) → F p = some (.tup ys))))) ∨
    (∃ F ι st i j, Sim T F ι st H ∧ xs = [.int i, .int j] ∧ ((b = .min2 ∧ Ans T F H ι st.length (.p (.int (if j < i then j else i))) Q) ∨ (b = .max2 ∧ Ans T F H ι st.length (.p (.int (if j > i then j else i))) Q))) := by
  obtain ⟨F, ι, st, vs, d, S, r, e, A⟩ := h
  unfold biV at e
  split at e
  · rename_i v
    obtain ⟨x, rfl, rx⟩ := r.one
    split at e
    · rename_i dv q
      cases q2 : biD b dv with
      | none => rw [q2] at e; cases e
      | some d' =>
        rw [q2] at e
        cases e
        exact .inl ⟨F, ι, st, x, dv, d', S, rfl, seeM_p S rx q, q2, A⟩
    · rename_i ws q
      obtain ⟨p, ys, rfl, h1, h2⟩ := seeM_l S rx q
      refine .inr (.inl ⟨F, ι, st, ws, p, ys, S, rfl, h2, .inl h1, ?_⟩)
      split at e
      · cases e; exact .inl ⟨rfl, A⟩
      · cases e; exact .inr (.inl ⟨rfl, A⟩)
      · cases e
        refine .inr (.inr ⟨rfl, A, fun z => ?_⟩)
        rcases h1 with h1 | ⟨o, h1⟩ <;> (rw [z] at h1; cases h1)
      · cases e
    · rename_i ws q
      obtain ⟨p, ys, rfl, h1, h3, h2⟩ := seeM_t S rx q
      refine .inr (.inl ⟨F, ι, st, ws, p, ys, S, rfl, h2, .inr h1, ?_⟩)
      split at e
      · cases e; exact .inl ⟨rfl, A⟩
      · cases e; exact .inr (.inl ⟨rfl, A⟩)
      · cases e
        exact .inr (.inr ⟨rfl, A, fun _ => h3⟩)
      · cases e
    · cases e
  · obtain ⟨x, y, rfl, r1, r2⟩ := r.two
    cases r1 with
    | p r1 =>
      cases r2 with
      | p r2 =>
        cases r1
        cases r2
        refine .inr (.inr ⟨F, ι, st, _, _, S, rfl, ?_⟩)
        split at e
        · cases e; exact .inl ⟨rfl, A⟩
        · cases e; exact .inr ⟨rfl, A⟩
        · cases e
  · cases e
end
section
variable {X : Cx} {T : Tb} {xs : List V} {H : Hp} {Q : VK}
theorem lenK {K : PySem.W.Frag} {F : Hp} : ∀ {kvs : List (Key × V)} {es : List (PyData × PyData)}, DatK K F kvs es → kvs.length = es.length
  | _, _, .nil => rfl
  | _, _, .cons _ h => by simp [lenK h]
theorem lenT {K : PySem.W.Frag} {F : Hp} : ∀ {kvs : List (List Key × V)} {es : List (PyData × PyData)}, DatT K F kvs es → kvs.length = es.length
  | _, _, .nil => rfl
  | _, _, .cons _ h => by simp [lenT h]

/-- one value -/
theorem cb_one {b : Bi} {f : Value} (hl : b ≠ .len ∧ b ≠ .list ∧ b ≠ .tuple ∧ b ≠ .min2 ∧ b ≠ .max2) (h : ∀ F ι st x d d' H Q, Sim T F ι st H → SeenP T.K F H x d → biD b d = some d' → Ans T F H ι st.length (.p d') Q → ∃ r, CallR X f r ∧ r [x] H Q) : CallR X f (rBi T b) := callr_by fun xs H Q hh => by
  rcases hh.cases with ⟨F, ι, st, x, d, d', S, rfl, s, e, A⟩ | ⟨F, ι, st, vs, p, ys, S, rfl, s, e, ⟨k, A⟩ | ⟨k, A⟩ | ⟨k, A, _⟩⟩ | ⟨F, ι, st, i, j, S, rfl, ⟨k, A⟩ | ⟨k, A⟩⟩
  · exact h F ι st x d d' H Q S s e A
  · exact absurd k hl.1
  · exact absurd k hl.2.1
  · exact absurd k hl.2.2.1
  · exact absurd k hl.2.2.2.1
  · exact absurd k hl.2.2.2.2
theorem cb_abs : CallR X (.builtin "abs") (rBi T .abs) := cb_one (by decide) fun F ι st x d d' H Q S s e A => by
  cases d with
  | int i => cases e; cases s.int; exact ⟨_, call_abs, _, rfl, A.int⟩
  | _ => cases e
theorem cb_int : CallR X (.type "int") (rBi T .int) := cb_one (by decide) fun F ι st x d d' H Q S s e A => by
  cases d with
  | int i => cases e; cases s.int; exact ⟨_, call_int1, .inl ⟨_, rfl, A.int⟩⟩
  | bool i => cases e; cases s.bl; exact ⟨_, call_int1, .inr ⟨_, rfl, A.int⟩⟩
  | str z =>
    have e : (if z.length ≤ 640 then (PySem.intText? z).map PyData.int else none) = some d' := e
    cases s.str
    split at e
    · cases q : PySem.intText? z with
      | none => rw [q] at e; cases e
      | some i =>
        rw [q] at e
        cases e
        exact ⟨_, call_int_str, _, _, rfl, q, by assumption, A.int⟩
    · cases e
  | _ => cases e
theorem cb_str : CallR X (.type "str") (rBi T .str) := cb_one (by decide) fun F ι st x d d' H Q S s e A => by
  cases d with
  | int i =>
    have e : (if i.natAbs.log2 < 1920 then some (PyData.str (toString i)) else none) = some d' := e
    cases s.int
    split at e
    · cases e
      exact ⟨_, call_str_int, _, rfl, by assumption, A.str⟩
    · cases e
  | str z => cases e; cases s.str; exact ⟨_, SkE.call_str_str, _, rfl, A.str⟩
  | _ => cases e
theorem cb_all (hc : X.calm = true) (hK : X.K = T.K) : CallR X (.builtin "all") (rBi T .all) := cb_one (by decide) fun F ι st x d d' H Q S s e A => by
  cases d with
  | list ds =>
    have e : ((boolsOf ds).map fun bs => PyData.bool (bs.all id)) = some d' := e
    cases q : boolsOf ds with
    | none => rw [q] at e; cases e
    | some bs =>
      rw [q] at e
      cases e
      obtain ⟨p, xs, rfl, r1, l1⟩ := s.list S.sub
      have := l1.bools q
      subst this
      exact ⟨_, cr_all hc, p, bs, rfl, .inl r1, A.bl⟩
  | _ => cases e
theorem cb_any (hc : X.calm = true) (hK : X.K = T.K) : CallR X (.builtin "any") (rBi T .any) := cb_one (by decide) fun F ι st x d d' H Q S s e A => by
  cases d with
  | list ds =>
    have e : ((boolsOf ds).map fun bs => PyData.bool (bs.any id)) = some d' := e
    cases q : boolsOf ds with
    | none => rw [q] at e; cases e
    | some bs =>
      rw [q] at e
      cases e
      obtain ⟨p, xs, rfl, r1, l1⟩ := s.list S.sub
      have := l1.bools q
      subst this
      exact ⟨_, cr_any hc, p, bs, rfl, .inl r1, A.bl⟩
  | _ => cases e
theorem cb_sum (hc : X.calm = true) : CallR X (.builtin "sum") (rBi T .sum) := cb_one (by decide) fun F ι st x d d' H Q S s e A => by
  cases d with
  | list ds =>
    have e : ((intsOf ds).map fun bs => PyData.int bs.sum) = some d' := e
    cases q : intsOf ds with
    | none => rw [q] at e; cases e
    | some bs =>
      rw [q] at e
      cases e
      obtain ⟨p, xs, rfl, r1, l1⟩ := s.list S.sub
      have := l1.intsOf q
      subst this
      exact ⟨_, cr_sum hc, p, bs, rfl, .inl r1, A.int⟩
  | _ => cases e
theorem cb_min (hc : X.calm = true) : CallR X (.builtin "min") (rBi T .min2) := callr_by fun xs H Q hh => by
  rcases hh.cases with ⟨F, ι, st, x, d, d', S, rfl, s, e, A⟩ | ⟨F, ι, st, vs, p, ys, S, rfl, s, e, ⟨k, A⟩ | ⟨k, A⟩ | ⟨k, A, _⟩⟩ | ⟨F, ι, st, i, j, S, rfl, ⟨k, A⟩ | ⟨k, A⟩⟩
  · cases d <;> cases e
  · cases k
  · cases k
  · cases k
  · exact ⟨_, call_min2 hc, _, _, rfl, A.int⟩
  · cases k
theorem cb_max (hc : X.calm = true) : CallR X (.builtin "max") (rBi T .max2) := callr_by fun xs H Q hh => by
  rcases hh.cases with ⟨F, ι, st, x, d, d', S, rfl, s, e, A⟩ | ⟨F, ι, st, vs, p, ys, S, rfl, s, e, ⟨k, A⟩ | ⟨k, A⟩ | ⟨k, A, _⟩⟩ | ⟨F, ι, st, i, j, S, rfl, ⟨k, A⟩ | ⟨k, A⟩⟩
  · cases d <;> cases e
  · cases k
  · cases k
  · cases k
  · cases k
  · exact ⟨_, call_max2 hc, _, _, rfl, A.int⟩
/-- len of a dict, locked or not -/
theorem call_lenDR : CallR X (.builtin "len") (fun xs H Q => ∃ a kvs, xs = [V.ref a] ∧ Rd H a (.dK kvs) ∧ Q (.int kvs.length) H) := by
  intro pins s σ H xs us Q I r h
  obtain ⟨a, kvs, rfl, ha, q⟩ := h
  obtain ⟨u, rfl, ru⟩ := vals1 r
  cases ru
  exact d_len I ha fun t s' I' => ⟨.int kvs.length, H, I', ⟨t, rfl⟩, q⟩
theorem call_lenTR : CallR X (.builtin "len") (fun xs H Q => ∃ a kvs, xs = [V.ref a] ∧ Rd H a (.dT kvs) ∧ Q (.int ((kvs.length : Nat) : Int)) H) := by
  intro pins s σ H xs us Q I r h
  obtain ⟨p, kvs, rfl, hp, q⟩ := h
  obtain ⟨u, rfl, rx⟩ := vals1 r
  obtain rfl : u = .ref p := rx
  obtain ⟨z, hd, ys, rel, dd⟩ := dt_rd I.hok hp
  have hl : kvs.length = ys.length := Paired.length rel
  refine call_len_dictH hd dd (by rw [← hl]; rw [sizeLine_eq] at z; omega) ?_
  rw [← hl]
  exact ⟨.int ((kvs.length : Nat) : Int), H, I.tok _, ⟨_, rfl⟩, q⟩
theorem cb_len : CallR X (.builtin "len") (rBi T .len) := callr_by fun xs H Q hh => by
  rcases hh.cases with ⟨F, ι, st, x, d, d', S, rfl, s, e, A⟩ | ⟨F, ι, st, vs, p, ys, S, rfl, s, e, ⟨k, A⟩ | ⟨k, A⟩ | ⟨k, A, _⟩⟩ | ⟨F, ι, st, i, j, S, rfl, ⟨k, A⟩ | ⟨k, A⟩⟩
  · cases d with
    | str z =>
      have e : (if z.length ≤ SZ then some (PyData.int z.length) else none) = some d' := e
      cases s.str
      split at e
      · cases e
        exact ⟨_, call_len, _, _, rfl, ⟨by rw [← SZ_eq]; assumption, rfl⟩, A.int⟩
      · cases e
    | list ds =>
      cases e
      obtain ⟨p, xs, rfl, r1, l1⟩ := s.list S.sub
      exact ⟨_, call_len, _, _, rfl, .inl ⟨xs, .inl r1, l1.length.symm⟩, A.int⟩
    | tuple ds =>
      cases e
      obtain ⟨p, xs, rfl, r1, _, l1⟩ := s.tup S.sub
      exact ⟨_, call_len, _, _, rfl, .inr ⟨xs, SqT.of r1, l1.length.symm⟩, A.int⟩
    | dict es =>
      cases e
      obtain ⟨p, rfl, ⟨kvs, r, k⟩ | ⟨kvs, r, k⟩⟩ := s.dict S.sub
      · exact ⟨_, call_lenDR, p, kvs, rfl, r, by rw [lenK k]; exact A.int⟩
      · exact ⟨_, call_lenTR, p, kvs, rfl, r, by rw [lenT k]; exact A.int⟩
    | _ => cases e
  · rcases e with e | e
    · exact ⟨_, call_len, _, _, rfl, .inl ⟨ys, .inl e, s.length⟩, A.int⟩
    · exact ⟨_, call_len, _, _, rfl, .inr ⟨ys, SqT.of e, s.length⟩, A.int⟩
  · cases k
  · cases k
  · cases k
  · cases k
theorem cb_list (hc : X.calm = true) : CallR X (.type "list") (rBi T .list) := callr_by fun xs H Q hh => by
  rcases hh.cases with ⟨F, ι, st, x, d, d', S, rfl, s, e, A⟩ | ⟨F, ι, st, vs, p, ys, S, rfl, s, e, ⟨k, A⟩ | ⟨k, A⟩ | ⟨k, A, _⟩⟩ | ⟨F, ι, st, i, j, S, rfl, ⟨k, A⟩ | ⟨k, A⟩⟩
  · cases d with
    | list ds =>
      cases e
      obtain ⟨p, xs, rfl, r1, l1⟩ := s.list S.sub
      exact ⟨_, call_list_of, _, _, rfl, .inl (.inl r1), A.lst S.sub l1⟩
    | tuple ds =>
      cases e
      obtain ⟨p, xs, rfl, r1, _, l1⟩ := s.tup S.sub
      exact ⟨_, call_list_of, _, _, rfl, .inr (SqT.of r1), A.lst S.sub l1⟩
    | dict es =>
      have e : (if (es.all fun q => isKey1 q.1) = true then some (PyData.list (es.map (·.1))) else none) = some d' := e
      split at e
      · rename_i hk
        cases e
        obtain ⟨p, rfl, ⟨kvs, r, k⟩ | ⟨kvs, r, k⟩⟩ := s.dict S.sub
        · exact ⟨_, call_listD hc, p, kvs, rfl, r, A.lst S.sub k.keys⟩
        · cases k with
          | nil => exact ⟨_, call_list_dT hc, p, [], rfl, r, fun q bs hq hb => by
              have : bs = [] := by cases bs with | nil => rfl | cons _ _ => cases hb
              subst this
              exact A.lst (xs := []) S.sub .nil q hq⟩
          | cons h1 h2 => simp [isKey1] at hk
      · cases e
    | _ => cases e
  · cases k
  · rcases e with e | e
    · exact ⟨_, call_list_of, _, _, rfl, .inl (.inl e), A.newL S.sub s⟩
    · exact ⟨_, call_list_of, _, _, rfl, .inr (SqT.of e), A.newL S.sub s⟩
  · cases k
  · cases k
  · cases k
theorem cb_tuple : CallR X (.type "tuple") (rBi T .tuple) := callr_by fun xs H Q hh => by
  rcases hh.cases with ⟨F, ι, st, x, d, d', S, rfl, s, e, A⟩ | ⟨F, ι, st, vs, p, ys, S, rfl, s, e, ⟨k, A⟩ | ⟨k, A⟩ | ⟨k, A, k2⟩⟩ | ⟨F, ι, st, i, j, S, rfl, ⟨k, A⟩ | ⟨k, A⟩⟩
  · cases d with
    | list ds =>
      cases e
      obtain ⟨p, xs, rfl, r1, l1⟩ := s.list S.sub
      exact ⟨_, call_tuple_of, _, _, rfl, .inl ⟨.inl r1, A.tup S.sub l1⟩⟩
    | tuple ds =>
      cases e
      obtain ⟨p, xs, rfl, r1, f1, l1⟩ := s.tup S.sub
      exact ⟨_, call_tuple_of, _, _, rfl, .inr ⟨SqT.of r1, A.dat (.tup f1 l1)⟩⟩
    | _ => cases e
  · cases k
  · cases k
  · rcases e with e | e
    · exact ⟨_, call_tuple_of, _, _, rfl, .inl ⟨.inl e, A.newT S.sub s⟩⟩
    · exact ⟨_, call_tuple_of, _, _, rfl, .inr ⟨SqT.of e, A.here (.t (k2 e) s)⟩⟩
  · cases k
  · cases k
end
/-! ### repr -/
theorem rd_keys {h : Heap} : ∀ (ks : List Key) (us : List Value), Vals (ks.map kV) us → ReadsAll h us (ks.map keyD) []
  | [], _, r => by cases r; exact .nil
  | .inl i :: ks, _, r => by
    cases r with
    | cons r1 r2 =>
      obtain ⟨t, rfl⟩ := r1
      exact ReadsAll.cons (as := []) (bs := []) (.int i t) (rd_keys ks _ r2)
  | .inr i :: ks, _, r => by
    cases r with
    | cons r1 r2 =>
      obtain ⟨t, rfl⟩ := r1
      exact ReadsAll.cons (as := []) (bs := []) (.str i t) (rd_keys ks _ r2)
section
variable {X : Cx} {pins : List (Addr × Obj)} {σ : L2.St} {H : Hp} {s : Shared} {K : PySem.W.Frag}
mutual
theorem reads_of (I : Inv X pins σ H s) (hS : ∀ o, s.heap.get? sysModules = some o → ∀ its n, o.data ≠ .seq its n) : ∀ (d : PyData) (x : V) (u : Value), Dat K H x d → RelV x u → ∃ as, Reads s.heap u d as ∧ sysModules ∉ as
  | .none, _, _, h, r => by cases h; cases r; exact ⟨_, .none, by simp⟩
  | .bool b, _, _, h, r => by cases h; cases r; exact ⟨_, .bool b, by simp⟩
  | .int i, _, _, h, r => by cases h; obtain ⟨t, rfl⟩ := r; exact ⟨_, .int i t, by simp⟩
  | .str z, _, _, h, r => by cases h; obtain ⟨t, rfl⟩ := r; exact ⟨_, .str z t, by simp⟩
  | .list ds, _, _, h, r => by
    cases h with
    | @lst a _ _ h1 h2 =>
      cases r
      obtain ⟨_, its, m, rv, _, e⟩ := lstR I h1
      obtain ⟨as, q, nm⟩ := readsAll_of I hS ds _ _ h2 rv
      refine ⟨_, .list e rfl rfl q, fun z => ?_⟩
      rcases List.mem_cons.mp z with z | z
      · rw [← z] at e
        exact hS _ e _ _ rfl
      · exact nm z
  | .tuple ds, _, _, h, r => by
    cases h with
    | tup h1 h2 =>
      cases r
      obtain ⟨_, its, rv, o, e, c, m, dd⟩ := I.hok _ _ h1
      obtain ⟨as, q, nm⟩ := readsAll_of I hS ds _ _ h2 rv
      exact ⟨_, .tuple e c dd q, nm⟩
  | .dict es, _, _, h, r => by
    cases h with
    | @dik a kvs _ h1 h2 =>
      cases r
      obtain ⟨_, lo, vs, kv, o, ea, ep, e1, e2, e3, _, e5, _⟩ := (show ObjOk X.prog X.w H s.heap a (.dK kvs) from rd_of I.hok h1)
      obtain ⟨q1, bs, q2, nm⟩ := readsK_of I hS es kvs vs ea.toList h2 kv e5
      refine ⟨_, .dict e1 e2.1 e3 q1 q2, fun z => ?_⟩
      have z : sysModules ∈ a :: ([] ++ bs) := z
      rcases List.mem_cons.mp z with z | z
      · rw [← z] at lo
        simp at lo
      · exact nm z
    | @dit a kvs _ h1 h2 =>
      cases r
      obtain ⟨_, lo, xs, kv, o, ea, ep, e1, e2, e3, e4, _⟩ := (show ObjOk X.prog X.w H s.heap a (.dT kvs) from rd_of I.hok h1)
      obtain ⟨q1, bs, q2, nm⟩ := readsT_of I hS es kvs xs h2 kv
      rw [← e4] at q1 q2
      refine ⟨_, .dict e1 e2.1 e3 q1 q2, fun z => ?_⟩
      have z : sysModules ∈ a :: ([] ++ bs) := z
      rcases List.mem_cons.mp z with z | z
      · rw [← z] at lo
        simp at lo
      · exact nm z
theorem readsAll_of (I : Inv X pins σ H s) (hS : ∀ o, s.heap.get? sysModules = some o → ∀ its n, o.data ≠ .seq its n) : ∀ (ds : List PyData) (xs : List V) (us : List Value), DatL K H xs ds → Vals xs us → ∃ as, ReadsAll s.heap us ds as ∧ sysModules ∉ as
  | [], _, _, h, r => by cases h; cases r; exact ⟨_, .nil, by simp⟩
  | d :: ds, _, _, h, r => by
    cases h with
    | cons h1 h2 =>
      cases r with
      | cons r1 r2 =>
        obtain ⟨as, q, n1⟩ := reads_of I hS d _ _ h1 r1
        obtain ⟨bs, q2, n2⟩ := readsAll_of I hS ds _ _ h2 r2
        exact ⟨_, .cons q q2, fun z => (List.mem_append.mp z).elim n1 n2⟩
theorem readsK_of (I : Inv X pins σ H s) (hS : ∀ o, s.heap.get? sysModules = some o → ∀ its n, o.data ≠ .seq its n) : ∀ (ds : List (PyData × PyData)) (kvs : List (Key × V)) (vs : List (Key × Value)) (es : List DictEntry), DatK K H kvs ds → L2.KV kvs vs → Pairs (mixKind X.prog X.w) es vs →
    ReadsAll s.heap (es.map (·.key)) (ds.map (·.1)) [] ∧ ∃ bs, ReadsAll s.heap (es.map (·.val)) (ds.map (·.2)) bs ∧ sysModules ∉ bs
  | [], _, _, _, h, r, p => by cases h; cases r; cases p; exact ⟨.nil, _, .nil, by simp⟩
  | (k, d) :: ds, _, _, _, h, r, p => by
    cases h with
    | @cons k _ _ _ _ h1 h2 =>
      cases r with
      | @cons _ v _ _ r1 r2 =>
        cases p with
        | @cons e _ _ _ p1 p2 p3 =>
          obtain ⟨q1, bs, q2, n2⟩ := readsK_of I hS ds _ _ _ h2 r2 p3
          obtain ⟨as, q, n1⟩ := reads_of I hS d _ _ h1 r1.2
          refine ⟨?_, _, ?_, fun z => (List.mem_append.mp z).elim n1 n2⟩
          · have p1 : keyIs v.1 e.key = true := p1
            rw [← r1.1] at p1
            rcases keyIs_shape p1 with ⟨i, t, e1, e2⟩ | ⟨x, t, e1, e2⟩
            · rw [List.map_cons, List.map_cons, e2]
              obtain rfl : k = .inl i := e1
              exact ReadsAll.cons (as := []) (bs := []) (.int i t) q1
            · rw [List.map_cons, List.map_cons, e2]
              obtain rfl : k = .inr x := e1
              exact ReadsAll.cons (as := []) (bs := []) (.str x t) q1
          · rw [List.map_cons, List.map_cons, p2]
            exact .cons q q2
theorem readsT_of (I : Inv X pins σ H s) (hS : ∀ o, s.heap.get? sysModules = some o → ∀ its n, o.data ≠ .seq its n) : ∀ (ds : List (PyData × PyData)) (kvs : List (List Key × V)) (xs : List (List Key × Addr × Value)), DatT K H kvs ds →
    Paired (fun (p : List Key × V) (q : List Key × Addr × Value) => p.1 = q.1 ∧ H q.2.1 = some (.tup (p.1.map kV)) ∧ RelV p.2 q.2.2) kvs xs →
    ReadsAll s.heap ((xs.map (entryOfKey (tupleKind (mixKind X.prog X.w)))).map (·.key)) (ds.map (·.1)) [] ∧ ∃ bs, ReadsAll s.heap ((xs.map (entryOfKey (tupleKind (mixKind X.prog X.w)))).map (·.val)) (ds.map (·.2)) bs ∧ sysModules ∉ bs
  | [], _, _, h, r => by cases h; cases r; exact ⟨.nil, _, .nil, by simp⟩
  | (k, d) :: ds, _, _, h, r => by
    cases h with
    | cons h1 h2 =>
      cases r with
      | cons r1 r2 =>
        obtain ⟨q1, bs, q2, n2⟩ := readsT_of I hS ds _ _ h2 r2
        obtain ⟨as, q, n1⟩ := reads_of I hS d _ _ h1 r1.2.2
        refine ⟨?_, _, .cons q q2, fun z => (List.mem_append.mp z).elim n1 n2⟩
        obtain ⟨_, its, rv, o, e, c, m, dd⟩ := I.hok _ _ r1.2.1
        exact ReadsAll.cons (as := []) (bs := []) (.tuple e c dd (rd_keys _ _ rv)) q1
end
end
def rRepr (K : PySem.W.Frag) : List V → Hp → VK → Prop := fun xs H Q => ∃ (x : V) (d : PyData), xs = [x] ∧ Dat K H x d ∧ d.shown.length ≤ sizeLine ∧ d.showable = true ∧ d.depth ≤ 64 ∧ Q (.str d.shown) H
section
variable {X : Cx} {T : Tb} {K : PySem.W.Frag}
theorem call_reprD (hG : X.A.guards = some []) (hu : X.A.units + 100 < cLine) (hM : ∃ o, X.K.lookup sysModules = some o ∧ ∀ its n, o.data ≠ .seq its n) : CallR X (.builtin "repr") (rRepr K) := by
  intro pins s σ H xs us Q I r h
  obtain ⟨x, d, rfl, hd, hz, hs, hp, q⟩ := h
  obtain ⟨u, rfl, rx⟩ := vals1 r
  have hS : ∀ o, s.heap.get? sysModules = some o → ∀ its n, o.data ≠ .seq its n := fun o e => by
    obtain ⟨o', e1, e2⟩ := hM
    have e3 := I.kIn _ _ e1
    rw [e] at e3
    cases e3
    exact e2
  obtain ⟨as, R, nm⟩ := reads_of I hS d x u hd rx
  cases x with
  | ref a =>
    cases rx
    refine repr_of_reads' R hs (fun _ => nm) hG (by omega) (fun _ _ e => e) (fun h' u tk hk => ?_) hz
    exact ⟨.str d.shown, H, I.kept (t' := tk) hk, ⟨_, rfl⟩, q⟩
  | non => cases hd; cases rx; exact PySem.P.repr_of_none ⟨.str _, H, I.tok _, ⟨_, rfl⟩, q⟩
  | bl b => cases hd; cases rx; exact PySem.P.repr_of_bool ⟨.str _, H, I.tok _, ⟨_, rfl⟩, q⟩
  | int i =>
    cases hd
    obtain ⟨t, rfl⟩ := rx
    exact PySem.P.repr_of_int (by simpa [PyData.showable] using hs) ⟨.str _, H, I.tok _, ⟨_, rfl⟩, q⟩
  | str z =>
    cases hd
    obtain ⟨t, rfl⟩ := rx
    exact PySem.P.repr_of_str ⟨.str _, H, I.tok _, ⟨_, rfl⟩, q⟩ hz
  | _ => cases hd
theorem cb_repr (hG : X.A.guards = some []) (hu : X.A.units + 100 < cLine) (hM : ∃ o, X.K.lookup sysModules = some o ∧ ∀ its n, o.data ≠ .seq its n) : CallR X (.builtin "repr") (rBi T .repr) := cb_one (by decide) fun F ι st x d d' H Q S s e A => by
  have e : (if d.shown.length ≤ SZ ∧ d.showable = true ∧ d.depth ≤ 64 then some (PyData.str d.shown) else none) = some d' := by cases d <;> exact e
  split at e
  · rename_i hh
    cases e
    exact ⟨_, call_reprD hG hu hM, x, d, rfl, s.up S.sub, by rw [← SZ_eq]; exact hh.1, hh.2.1, hh.2.2, A.str⟩
  · cases e
end
end Vm
end

section
/-! V11: sorted, isinstance. -/
namespace Vm
open PySem L2 PySem.Spec PyProof.Rows

/-! ### sorted texts: one order -/
theorem ltS_cps (a b : Str) : ltCps a.cps.toList b.cps.toList = ltS a b := ltCps_eq _ _
theorem ltS_irr (a : Str) : ltS a a = false := decide_eq_false (List.lt_irrefl _)
theorem ltS_trans {a b c : Str} (h1 : ltS a b = true) (h2 : ltS b c = true) : ltS a c = true := decide_eq_true (List.lt_trans (of_decide_eq_true h1) (of_decide_eq_true h2))
theorem str_ext {a b : Str} (h : a.cps.toList = b.cps.toList) : a = b := by
  cases a with | mk a => cases b with | mk b => cases a; cases b; cases h; rfl
theorem ltS_tri {a b : Str} (h1 : ltS a b = false) (h2 : ltS b a = false) : a = b := str_ext (List.le_antisymm (by
  have := of_decide_eq_false h2
  exact List.not_lt.mp this) (by
  have := of_decide_eq_false h1
  exact List.not_lt.mp this))
/-- not above -/
def leS (a b : Str) : Prop := ltS b a = false
theorem leS_trans {a b c : Str} (h1 : leS a b) (h2 : leS b c) : leS a c := by
  unfold leS at *
  cases q : ltS c a with
  | false => rfl
  | true =>
    cases q2 : ltS b a with
    | true => rw [h1] at q2; cases q2
    | false =>
      cases q3 : ltS a b with
      | false =>
        have := ltS_tri q3 q2
        subst this
        rw [q] at h2; cases h2
      | true => rw [ltS_trans q q3] at h2; cases h2
theorem rising_pw : ∀ (p : Str) (l : List Str), risingS p l = true → (p :: l).Pairwise leS
  | p, [], _ => by simp
  | p, x :: r, h => by
    have h : (!ltCps x.cps.toList p.cps.toList && risingS x r) = true := h
    rw [Bool.and_eq_true] at h
    have h2 := rising_pw x r h.2
    have h1 : leS p x := by
      unfold leS
      rw [← ltS_cps]
      simpa using h.1
    refine List.pairwise_cons.mpr ⟨fun y hy => ?_, h2⟩
    rcases List.mem_cons.mp hy with rfl | hy
    · exact h1
    · exact leS_trans h1 (List.rel_of_pairwise_cons h2 hy)
theorem sortedS_pw : ∀ (l : List Str), sortedS l = true → l.Pairwise leS
  | [], _ => .nil
  | x :: r, h => rising_pw x r h
theorem insS_perm (x : Str) : ∀ l : List Str, (insS x l).Perm (x :: l)
  | [] => .refl _
  | y :: r => by
    unfold insS
    by_cases h : ltS y x = true
    · rw [if_pos h]
      exact ((insS_perm x r).cons y).trans (.swap ..)
    · rw [if_neg h]
theorem insS_pw (x : Str) : ∀ l : List Str, l.Pairwise leS → (insS x l).Pairwise leS
  | [], _ => by simp [insS]
  | y :: r, h => by
    unfold insS
    by_cases q : ltS y x = true
    · rw [if_pos q]
      refine List.pairwise_cons.mpr ⟨fun z hz => ?_, insS_pw x r (List.pairwise_cons.mp h).2⟩
      rcases List.mem_cons.mp ((insS_perm x r).mem_iff.mp hz) with rfl | hz
      · unfold leS
        cases k : ltS z y with
        | false => rfl
        | true => exact absurd (ltS_trans q k) (by rw [ltS_irr]; simp)
      · exact List.rel_of_pairwise_cons h hz
    · rw [if_neg q]
      refine List.pairwise_cons.mpr ⟨fun z hz => ?_, h⟩
      have q : leS x y := by simpa [leS] using q
      rcases List.mem_cons.mp hz with rfl | hz
      · exact q
      · exact leS_trans q (List.rel_of_pairwise_cons h hz)
theorem sortS_perm : ∀ l : List Str, (sortS l).Perm l
  | [] => .refl _
  | x :: r => (insS_perm x (sortS r)).trans ((sortS_perm r).cons x)
theorem sortS_pw : ∀ l : List Str, (sortS l).Pairwise leS
  | [] => .nil
  | x :: r => insS_pw x _ (sortS_pw r)
theorem sort_one : ∀ {l m : List Str}, l.Perm m → l.Pairwise leS → m.Pairwise leS → l = m
  | [], m, h, _, _ => h.nil_eq
  | x :: r, [], h, _, _ => absurd h.symm.nil_eq (by simp)
  | x :: r, y :: t, h, h1, h2 => by
    have e : x = y := by
      have hx := h.mem_iff.mp List.mem_cons_self
      have hy := h.mem_iff.mpr (List.mem_cons_self (a := y) (l := t))
      rcases List.mem_cons.mp hx with e | hx
      · exact e
      · rcases List.mem_cons.mp hy with e | hy
        · exact e.symm
        · exact ltS_tri (List.rel_of_pairwise_cons h2 hx) (List.rel_of_pairwise_cons h1 hy)
    subst e
    rw [sort_one (h.cons_inv) (List.pairwise_cons.mp h1).2 (List.pairwise_cons.mp h2).2]
theorem sort_of {ys xs : List Str} (h : ys.Perm xs) (s : sortedS ys = true) : ys = sortS xs := sort_one (h.trans (sortS_perm xs).symm) (sortedS_pw ys s) (sortS_pw xs)

section
variable {X : Cx} {T : Tb}
theorem dk_rdE {P : Program} {w : World} {H : Hp} {h : Heap} {a : Addr} {kvs : List (Key × V)} (ok : HOk P w H h) (e : Rd H a (.dK kvs) ∨ (kvs = [] ∧ Rd H a (.dT []))) : kvs.length ≤ sizeLine ∧ (a == sysModules) = false ∧ ∃ vs, KV kvs vs ∧ h.DictOf (mixKind P w) a vs := by
  rcases e with e | ⟨rfl, e⟩
  · exact dk_rd ok e
  · obtain ⟨z, y, xs, r, o, es, ep, h1, h2, h3, h4, h5⟩ := (show ObjOk P w H h a (.dT []) from rd_of ok e)
    cases r
    have h6 : es = #[] := by simpa using h4
    subst h6
    exact ⟨Nat.zero_le _, y, [], .nil, o, #[], ep, h1, h2, h3, fun _ he => by simp at he, Pairs.nil, List.nodup_nil⟩
theorem call_sortedE (hcalm : X.calm = true) : CallR X (.builtin "sorted") (fun xs H Q => ∃ (a : Addr) (kvs : List (Key × V)) (ks : List Str), xs = [.ref a] ∧ (Rd H a (.dK kvs) ∨ (kvs = [] ∧ Rd H a (.dT []))) ∧ kvs.map (·.1) = ks.map Sum.inr ∧ ks.length < 64 ∧
    ∀ ys p, ys.Perm ks → sortedS ys = true → H p = none → Q (.ref p) (upd H p (.lst (ys.map V.str)))) := by
  intro pins s σ H xs us Q I r q
  obtain ⟨a, kvs, ks, ex, hd, hks, h64, q⟩ := q
  subst ex
  obtain ⟨u, eu, rx⟩ := vals1 r
  subst eu
  cases rx
  obtain ⟨z, lo, vs, rel, dd⟩ := dk_rdE I.hok hd
  obtain ⟨ep, hat⟩ := dd.dictAt
  have hkeys : vs.map (·.1) = ks.map Sum.inr := rel.keys.symm.trans hks
  have hl : vs.length = ks.length := by
    have e := congrArg List.length hkeys
    rw [List.length_map, List.length_map] at e
    exact e
  have h16 : vs.length ≤ sizeLine := by rw [hl, sizeLine_eq]; omega
  refine Calls.call_function_entry PyProof.Rows.kind_sorted PyProof.Rows.plain_sorted PyProof.Rows.entry_sorted (PyProof.Rows.args_sorted1 _) ?_
  unfold Builtin.«sorted»
  refine wpAny_bind (m := checkCount "sorted" 1 1 _) (wpAny_pure ?_)
  refine wpAny_bind (PySem.W.kdu_collect (A := X.A.in1) (PySem.W.kdl_dict (knd := mixKind X.prog X.w) (kvs := vs) (ep := ep) lo) (I.ok.hd hcalm) hat h16 fun h' tk acc hk hacc => ?_)
  have hal : acc.toList.length = ks.length := by rw [Array.length_toList, hacc.1, hl]
  have hS : StrsAre acc.toList ks := strs_at hal fun j v e => by
    obtain ⟨k, x, e1, e2⟩ := hacc.2 j v (by rw [← Array.getElem?_toList]; exact e)
    have e3 : (vs.map (·.1))[j]? = some k := by rw [List.getElem?_map, e1]; all_goals rfl
    rw [hkeys, List.getElem?_map] at e3
    cases e4 : ks[j]? with
    | none => rw [e4] at e3; cases e3
    | some y =>
      rw [e4] at e3
      have e5 : Sum.inr y = k := Option.some.inj e3
      subst e5
      obtain ⟨t, ev⟩ := Value.isStrOf_shape (x := y) (v := v) e2
      exact ⟨y, t, rfl, ev⟩
  have I1 : Inv X pins σ H { s with heap := h', toks := tk } := I.kept hk
  refine wpAny_bind (wpAny_newList ?_ (by rw [hal, sizeLine_eq]; omega))
  have hoL : (h'.push (seqObj "list" acc.toList.toArray 0)).get? h'.objs.size = some (seqObj "list" acc.toList.toArray 0) := Heap.get?_push_size _ rfl
  show wpAny _ _ _ _ _ { s with heap := h'.push (seqObj "list" acc.toList.toArray 0), toks := tk }
  refine wpAny_bind (wpAny_holding (wpAny_call_entry PyProof.Rows.slot_list_sort ⟨_, hoL, rfl⟩ PyProof.Rows.entry_list_sort
    (list_sort_treeK strKind_oneLt (s := { s with heap := h'.push (seqObj "list" acc.toList.toArray 0), toks := tk }) hoL hS.keysOf (fun v₁ v₂ rest e => keyKind_strs (by rw [← e]; exact hS)) (by rw [hal]; exact h64) fun st' hp hs => ⟨_, rfl, ?_⟩)
    (PyProof.Rows.args_list_sort _)))
  obtain ⟨ys, g1, g2, g3⟩ := sorted_out_str hS hp hs
  obtain ⟨e', he'⟩ := PyProof.Rows.sortedHeap_at (vs := acc.toList) (out := (arrOf st').map (·.2)) hoL
  have hlen : (ys.map V.str).length ≤ sizeLine := by
    rw [List.length_map, g2.length_eq]
    exact Nat.le_trans (Nat.le_of_lt h64) (by decide)
  refine wpAny_pure ⟨_, rfl, .ref h'.objs.size, upd H h'.objs.size (.lst (ys.map V.str)), I1.laid (t' := tk) (fun b u e => ?_) (Nat.le_refl _)
    (show ObjOk X.prog X.w _ _ _ (.lst (ys.map V.str)) from ⟨hlen, ((arrOf st').map (·.2)).toList, e', vals_of_strs g1, by rw [Array.toArray_toList]; exact he'⟩), rfl, q ys _ g2 g3 (I1.hok.fresh (Nat.le_refl _))⟩
  have hb : b < h'.objs.size := Heap.lt_size e
  rw [PyProof.Rows.sortedHeap_old (Nat.ne_of_lt hb) (by rw [size_push']; exact Nat.lt_succ_of_lt hb)]
  exact Heap.get?_push_of_some _ e
theorem strs_map {K : PySem.W.Frag} {F : Hp} : ∀ (ss : List Str), DatL K F (ss.map V.str) (ss.map PyData.str) := DatL.strs
theorem keys_str {K : PySem.W.Frag} {F : Hp} : ∀ {kvs : List (Key × V)} {es : List (PyData × PyData)} {ss : List Str}, DatK K F kvs es → strsOf (es.map (·.1)) = some ss → kvs.map (·.1) = ss.map Sum.inr
  | _, _, _, .nil, e => by cases e; rfl
  | _, _, ss, .cons (k := k) (ds := ds) h1 h2, e => by
    cases k with
    | inl i => cases e
    | inr z =>
      have e : (strsOf (ds.map (·.1))).map (z :: ·) = some ss := e
      cases q : strsOf (ds.map (·.1)) with
      | none => rw [q] at e; cases e
      | some tt =>
        rw [q] at e
        cases e
        rw [List.map_cons, List.map_cons, keys_str h2 q]
theorem strsOf_len : ∀ {ds : List PyData} {ss : List Str}, strsOf ds = some ss → ds.length = ss.length
  | [], _, e => by cases e; rfl
  | .str z :: ds, ss, e => by
    have e : (strsOf ds).map (z :: ·) = some ss := e
    cases q : strsOf ds with
    | none => rw [q] at e; cases e
    | some tt => rw [q] at e; cases e; simp [strsOf_len q]
  | .none :: _, _, e => by cases e
  | .bool _ :: _, _, e => by cases e
  | .int _ :: _, _, e => by cases e
  | .list _ :: _, _, e => by cases e
  | .tuple _ :: _, _, e => by cases e
  | .dict _ :: _, _, e => by cases e
theorem cb_sorted (hc : X.calm = true) : CallR X (.builtin "sorted") (rBi T .sorted) := cb_one (by decide) fun F ι st x d d' H Q S s e A => by
  cases d with
  | list ds =>
    have e : (if ds.length < 64 then (strsOf ds).map fun ss => PyData.list ((sortS ss).map .str) else none) = some d' := e
    split at e
    · rename_i hz
      cases q : strsOf ds with
      | none => rw [q] at e; cases e
      | some ss =>
        rw [q] at e
        cases e
        obtain ⟨p, xs, rfl, r1, l1⟩ := s.list S.sub
        have := l1.strsOf q
        subst this
        refine ⟨_, cr_sortedS, p, ss, rfl, .inl r1, by rw [← strsOf_len q]; exact hz, fun ys p hp hs hn => ?_⟩
        rw [sort_of hp hs]
        exact A.lst S.sub (DatL.strs _) p hn
    · cases e
  | dict es =>
    have e : (if es.length < 64 then (strsOf (es.map (·.1))).map fun ss => PyData.list ((sortS ss).map .str) else none) = some d' := e
    split at e
    · rename_i hz
      cases q : strsOf (es.map (·.1)) with
      | none => rw [q] at e; cases e
      | some ss =>
        rw [q] at e
        cases e
        have hl := strsOf_len q
        rw [List.length_map] at hl
        obtain ⟨p, rfl, ⟨kvs, r, k⟩ | ⟨kvs, r, k⟩⟩ := s.dict S.sub
        · refine ⟨_, call_sortedD hc, p, kvs, ss, rfl, r, keys_str k q, by rw [← hl]; exact hz, fun ys p hp hs hn => ?_⟩
          rw [sort_of hp hs]
          exact A.lst S.sub (DatL.strs _) p hn
        · cases k with
          | nil =>
            cases q
            exact ⟨_, call_sortedE hc, p, [], [], rfl, .inr ⟨rfl, r⟩, rfl, by decide, fun ys p hp hs hn => by
              rw [sort_of hp hs]
              exact A.lst (xs := []) S.sub .nil p hn⟩
          | cons h1 h2 => cases q
    · cases e
  | _ => cases e
end
end Vm
end

section
/-! V12: calls. -/
namespace Vm
open PySem L2 PySem.Spec PyProof.Rows

/-- what the i-th def promises, with n calls in reach -/
def spOf (T : Tb) (P : Pg) (n i : Nat) : Sp := fun vs H Q E => ∃ G F ι st ws d, Sim (T.wG G) F ι st H ∧ VRelL T F ι st.length ws vs ∧ P.fns i = some d ∧ ws.length = d.np ∧ PostG (RV T) (T.wG G) (fun cls d _ H => E cls d H) [] F ι st.length (runF P n i ws st) Q
section
variable {X : Cx} {T : Tb} {W : L2.WX} {Kt : Kit} {e e1 e2 e3 : Expr} {es : List Expr} {pos p p2 : Pos} {x : Str}
theorem runF_len {P : Pg} {n i : Nat} {ws : List Val} {st : Store} {W : L2.WX} {σ : L2.St} {F : Hp} {ι : Nat → Addr} {m : Nat} {Q : VK} (h : PostG (RV T) T W σ F ι m (runF P n i ws st) Q) : ∃ d, P.fns i = some d ∧ ws.length = d.np := by
  cases n with
  | zero => exact h.elim
  | succ n =>
    rw [runF_succ] at h
    cases q : P.fns i with
    | none => rw [q] at h; exact h.elim
    | some d =>
      rw [q] at h
      by_cases l : ws.length = d.np
      · exact ⟨d, rfl, l⟩
      · simp only at h
        unfold runB at h
        rw [if_neg l] at h
        exact h.elim
theorem de_call {P : Pg} {n k i : Nat} {f : Addr} {fd : FuncData} {ps : List Str} {a : Ex} (hF : FnG X.prog X.w X.K X.mg X.base k f fd ps (spOf T P n i)) (hr : Room k X.A) (hG : X.A.guards = some []) (hg : Gl X x) (hm : X.mg x = some (.ref f)) (hk : PySem.W.keepIn X.K (.ref f) = true) (hb : Binds X.K fd ps []) (tk : Takes X W)
    (ha : DA X T W (e :: es) (evalL (kitOf P n) a)) (hdb : (x == ("__debug__" : Str)) = false) (he : starEach (e :: es) X.env = (false, eval e X.env) :: starEach es X.env) (hpl : (backTo pos (starEach es X.env)).any (·.1) = false) :
    DE X T W (.Call (.Name x p) (e :: es) [] pos) (evalX (kitOf P n) (.call i a)) :=
  de_eq (de_args (t := tTup) (g := fun _ vs st1 => runF P n i vs st1) (pe_callG (E := WE W) hF hr hG hg hm hk hb (passAt tk) ha hdb he hpl) fun σ F ι env st H vs xs Q S r p => by
    obtain ⟨d, h1, h2⟩ := runF_len p
    refine ⟨T.G, F, ι, st, vs, d, S, r, h1, h2, ?_⟩
    revert p
    cases runF P n i vs st with
    | ok v s => exact fun p => p
    | er c fs s => exact fun p => p
    | no => exact fun p => p) fun env st => by rw [evalX] <;> rfl
theorem de_biB {b : Bi} {id : String} {a : Ex} (hc : CallR X (.builtin id) (rBi T b)) (hg : Gl X x) (hm : X.mg x = none) (hv : bootBuiltins x = some (.builtin id)) (ha : DA X T W (e :: es) (evalL Kt a)) (hn : x ≠ "__name__") (hdb : (x == ("__debug__" : Str)) = false)
    (he : starEach (e :: es) X.env = (false, eval e X.env) :: starEach es X.env) (hpl : (backTo pos (starEach es X.env)).any (·.1) = false) : DE X T W (.Call (.Name x p) (e :: es) [] pos) (evalX Kt (.bi b a)) :=
  de_eq (de_args (t := tTup) (g := fun _ vs st1 => R.of (biV b vs st1) st1) (pe_callB (p := p) hc hg hm hv ha hn hdb he hpl) fun σ F ι env st H vs xs Q S r p => by
    obtain ⟨d, h1, h2⟩ := of_ans S p
    exact ⟨F, ι, st, vs, d, S, r, h1, h2⟩) fun env st => by rw [evalX]
theorem de_biT {b : Bi} {id : String} {a : Ex} (hc : CallR X (.type id) (rBi T b)) (hg : Gl X x) (hm : X.mg x = none) (hv : bootBuiltins x = some (.type id)) (ha : DA X T W (e :: es) (evalL Kt a)) (hn : x ≠ "__name__") (hdb : (x == ("__debug__" : Str)) = false)
    (he : starEach (e :: es) X.env = (false, eval e X.env) :: starEach es X.env) (hpl : (backTo pos (starEach es X.env)).any (·.1) = false) : DE X T W (.Call (.Name x p) (e :: es) [] pos) (evalX Kt (.bi b a)) :=
  de_eq (de_args (t := tTup) (g := fun _ vs st1 => R.of (biV b vs st1) st1) (pe_callTy (p := p) hc hg hm hv ha hn hdb he hpl) fun σ F ι env st H vs xs Q S r p => by
    obtain ⟨d, h1, h2⟩ := of_ans S p
    exact ⟨F, ι, st, vs, d, S, r, h1, h2⟩) fun env st => by rw [evalX]
/-- .. whose list is a cell -/
def rNew (T : Tb) (b : Bi) : List V → Hp → VK → Prop := fun xs H Q => ∃ F ι st vs ds, Sim T F ι st H ∧ VRelL T F ι st.length vs xs ∧ biV b vs st = some (.p (.list ds)) ∧ ∀ ys, DatL T.K F ys ds → ∀ p, H p = none → Q (.ref p) (upd H p (.lst ys))
theorem biL {F : Hp} {ι : Nat → Addr} {st : Store} {H : Hp} {b : Bi} {vs : List Val} {xs : List V} {ds : List PyData} (hb : b = .list ∨ b = .sorted) (S : Sim T F ι st H) (r : VRelL T F ι st.length vs xs) (e : biV b vs st = some (.p (.list ds))) :
    ∃ x d, xs = [x] ∧ SeenP T.K F H x d ∧ biD b d = some (.list ds) := by
  unfold biV at e
  split at e
  · obtain ⟨x, rfl, rx⟩ := r.one
    split at e
    · rename_i d q
      cases q2 : biD b d with
      | none => rw [q2] at e; cases e
      | some d' => rw [q2] at e; cases e; exact ⟨x, d, rfl, seeM_p S rx q, q2⟩
    · rcases hb with rfl | rfl <;> cases e
    · rcases hb with rfl | rfl <;> cases e
    · cases e
  · rcases hb with rfl | rfl <;> cases e
  · cases e
theorem cn_list (hc : X.calm = true) : CallR X (.type "list") (rNew T .list) := callr_by fun xs H Q ⟨F, ι, st, vs, ds, S, r, e, A⟩ => by
  obtain ⟨x, d, rfl, s, q⟩ := biL (.inl rfl) S r e
  cases d with
  | list ds =>
    cases q
    obtain ⟨p, xs, rfl, r1, l1⟩ := s.list S.sub
    exact ⟨_, call_list_of, _, _, rfl, .inl (.inl r1), A _ l1⟩
  | tuple ds =>
    cases q
    obtain ⟨p, xs, rfl, r1, _, l1⟩ := s.tup S.sub
    exact ⟨_, call_list_of, _, _, rfl, .inr (SqT.of r1), A _ l1⟩
  | dict es =>
    have q : (if (es.all fun q => isKey1 q.1) = true then some (PyData.list (es.map (·.1))) else none) = some (.list ds) := q
    split at q
    · rename_i hk
      cases q
      obtain ⟨p, rfl, ⟨kvs, r, k⟩ | ⟨kvs, r, k⟩⟩ := s.dict S.sub
      · exact ⟨_, call_listD hc, p, kvs, rfl, r, A _ k.keys⟩
      · cases k with
        | nil => exact ⟨_, call_list_dT hc, p, [], rfl, r, fun q bs hq hb => by
            have : bs = [] := by cases bs with | nil => rfl | cons _ _ => cases hb
            subst this
            exact A [] .nil q hq⟩
        | cons h1 h2 => simp [isKey1] at hk
    · cases q
  | _ => cases q
theorem cn_sorted (hc : X.calm = true) : CallR X (.builtin "sorted") (rNew T .sorted) := callr_by fun xs H Q ⟨F, ι, st, vs, ds, S, r, e, A⟩ => by
  obtain ⟨x, d, rfl, s, q0⟩ := biL (.inr rfl) S r e
  cases d with
  | list es =>
    have e : (if es.length < 64 then (strsOf es).map fun ss => PyData.list ((sortS ss).map .str) else none) = some (.list ds) := q0
    split at e
    · rename_i hz
      cases q : strsOf es with
      | none => rw [q] at e; cases e
      | some ss =>
        rw [q] at e
        cases e
        obtain ⟨p, xs, rfl, r1, l1⟩ := s.list S.sub
        have := l1.strsOf q
        subst this
        refine ⟨_, cr_sortedS, p, ss, rfl, .inl r1, by rw [← strsOf_len q]; exact hz, fun ys p hp hs hn => ?_⟩
        rw [sort_of hp hs]
        exact A _ (DatL.strs _) p hn
    · cases e
  | dict es =>
    have e : (if es.length < 64 then (strsOf (es.map (·.1))).map fun ss => PyData.list ((sortS ss).map .str) else none) = some (.list ds) := q0
    split at e
    · rename_i hz
      cases q : strsOf (es.map (·.1)) with
      | none => rw [q] at e; cases e
      | some ss =>
        rw [q] at e
        cases e
        have hl := strsOf_len q
        rw [List.length_map] at hl
        obtain ⟨p, rfl, ⟨kvs, r, k⟩ | ⟨kvs, r, k⟩⟩ := s.dict S.sub
        · refine ⟨_, call_sortedD hc, p, kvs, ss, rfl, r, keys_str k q, by rw [← hl]; exact hz, fun ys p hp hs hn => ?_⟩
          rw [sort_of hp hs]
          exact A _ (DatL.strs _) p hn
        · cases k with
          | nil =>
            cases q
            exact ⟨_, call_sortedE hc, p, [], [], rfl, .inr ⟨rfl, r⟩, rfl, by decide, fun ys p hp hs hn => by
              rw [sort_of hp hs]
              exact A [] .nil p hn⟩
          | cons h1 h2 => cases q
    · cases e
  | _ => cases q0
theorem de_newB {b : Bi} {id : String} {f : Nat} {a : Ex} (hbb : b = .sorted) (hc : CallR X (.builtin id) (rNew T b)) (hg : Gl X x) (hm : X.mg x = none) (hv : bootBuiltins x = some (.builtin id)) (ha : DA X T W (e :: es) (evalL Kt a)) (hn : x ≠ "__name__") (hdb : (x == ("__debug__" : Str)) = false)
    (he : starEach (e :: es) X.env = (false, eval e X.env) :: starEach es X.env) (hpl : (backTo pos (starEach es X.env)).any (·.1) = false) : DE X T W (.Call (.Name x p) (e :: es) [] pos) (evalX Kt (.new f b a)) :=
  de_eq (de_args (t := tTup) (g := fun _ vs st1 => match biV b vs st1 with
    | some (.p (.list ds)) => alloc f (ds.map .p) st1
    | some (.p (.dict kvs)) => allocD f (kvs.map fun q => (q.1, .p q.2)) st1
    | _ => .no) (pe_callB (p := p) hc hg hm hv ha hn hdb he hpl) fun σ F ι env st H vs xs Q S r p => by
    split at p
    · rename_i ds q
      exact ⟨F, ι, st, vs, ds, S, r, q, fun ys hy => alloc_post S (VRelL.ofDat hy) p⟩
    · rename_i kvs q
      subst hbb
      exfalso
      unfold biV at q
      split at q
      · split at q
        · rename_i d _
          cases d with
          | list ds =>
            have q : ((if ds.length < 64 then (strsOf ds).map fun ss => PyData.list ((sortS ss).map .str) else none).map Val.p) = some (.p (.dict kvs)) := q
            split at q
            · cases q2 : strsOf ds <;> (rw [q2] at q; cases q)
            · cases q
          | dict es =>
            have q : ((if es.length < 64 then (strsOf (es.map (·.1))).map fun ss => PyData.list ((sortS ss).map .str) else none).map Val.p) = some (.p (.dict kvs)) := q
            split at q
            · cases q2 : strsOf (es.map (·.1)) <;> (rw [q2] at q; cases q)
            · cases q
          | _ => cases q
        · cases q
        · cases q
        · cases q
      · cases q
      · cases q
    · exact p.elim) fun env st => by rw [evalX] <;> rfl
theorem de_newT {f : Nat} {a : Ex} (hc : CallR X (.type "list") (rNew T .list)) (hg : Gl X x) (hm : X.mg x = none) (hv : bootBuiltins x = some (.type "list")) (ha : DA X T W (e :: es) (evalL Kt a)) (hn : x ≠ "__name__") (hdb : (x == ("__debug__" : Str)) = false)
    (he : starEach (e :: es) X.env = (false, eval e X.env) :: starEach es X.env) (hpl : (backTo pos (starEach es X.env)).any (·.1) = false) : DE X T W (.Call (.Name x p) (e :: es) [] pos) (evalX Kt (.new f .list a)) :=
  de_eq (de_args (t := tTup) (g := fun _ vs st1 => match biV .list vs st1 with
    | some (.p (.list ds)) => alloc f (ds.map .p) st1
    | some (.p (.dict kvs)) => allocD f (kvs.map fun q => (q.1, .p q.2)) st1
    | _ => .no) (pe_callTy (p := p) hc hg hm hv ha hn hdb he hpl) fun σ F ι env st H vs xs Q S r p => by
    split at p
    · rename_i ds q
      exact ⟨F, ι, st, vs, ds, S, r, q, fun ys hy => alloc_post S (VRelL.ofDat hy) p⟩
    · rename_i kvs q
      exfalso
      unfold biV at q
      split at q
      · split at q
        · rename_i d _
          cases d with
          | dict es =>
            have q : ((if (es.all fun q => isKey1 q.1) = true then some (PyData.list (es.map (·.1))) else none).map Val.p) = some (.p (.dict kvs)) := q
            split at q <;> cases q
          | _ => cases q
        · cases q
        · cases q
        · cases q
      · cases q
      · cases q
    · exact p.elim) fun env st => by rw [evalX] <;> rfl
end
end Vm
end

section
/-! V13: methods. -/
namespace Vm
open PySem L2 PySem.Spec PyProof.Rows

inductive SL (K : PySem.W.Frag) (F H : Hp) : List V → List PyData → Prop
  | nil : SL K F H [] []
  | cons {x : V} {d : PyData} {xs : List V} {ds : List PyData} : SeenP K F H x d → SL K F H xs ds → SL K F H (x :: xs) (d :: ds)
section
variable {X : Cx} {T : Tb} {K : PySem.W.Frag} {F F' H H' : Hp} {ι : Nat → Addr} {n : Nat} {st : Store} {x y z : V} {a b c : Val} {d e : PyData} {Q : VK} {W : L2.WX} {σ : L2.St}
theorem sl_of (S : Sim T F ι st H) : ∀ {vs : List Val} {xs : List V} {ds : List PyData}, VRelL T F ι st.length vs xs → unPs (vs.map (see st)) = some ds → SL T.K F H xs ds
  | _, _, _, .nil, e => by cases e; exact .nil
  | _ :: vs, _, ds, .cons (v := v) h1 h2, e => by
    rw [List.map_cons, unPs] at e
    cases q : see st v with
    | p d =>
      rw [q] at e
      cases q2 : unPs (vs.map (see st)) with
      | none => rw [q2] at e; cases e
      | some es =>
        rw [q2] at e
        cases e
        exact .cons (see_seen S h1 q) (sl_of S h2 q2)
    | _ => rw [q] at e; cases e
theorem SL.one (h : SL K F H [x] [d]) : SeenP K F H x d := by cases h with | cons h1 _ => exact h1
theorem SL.one' {xs : List V} {d : PyData} (h : SL K F H xs [d]) : ∃ x, xs = [x] ∧ SeenP K F H x d := by
  cases h with
  | cons h1 h2 => cases h2; exact ⟨_, rfl, h1⟩
/-- the method's type and name of the built-in -/
def mT : Mt → String
  | .split | .join | .lstrip | .partition | .rpartition | .startswith => "str"
  | .append | .extend | .pop | .popAt | .insert => "list"
  | _ => "dict"
def mKd : Mt → Kd
  | .split | .join | .lstrip | .partition | .rpartition | .startswith => .str
  | .append | .extend | .pop | .popAt | .insert => .list
  | _ => .dict
def tyKd (kd : Kd) (x : V) (H : Hp) : Prop :=
  match kd with
  | .str => ∃ z, x = .str z
  | .list => ∃ p xs, x = .ref p ∧ Rd H p (.lst xs)
  | .dict => ∃ p, x = .ref p ∧ ((∃ kvs, Rd H p (.dK kvs)) ∨ ∃ kvs, Rd H p (.dT kvs))
theorem md_of {k : Nat} {vs : List (PyData × Val)} (S : Sim T F ι st H) (e : st[k]? = some (.md vs)) : F (ι k) = none ∧ ((∃ kvs, H (ι k) = some (.dK kvs) ∧ MdK T F ι st.length vs kvs) ∨ ∃ kvs, H (ι k) = some (.dT kvs) ∧ MdT T F ι st.length vs kvs) := S.cel k _ e
theorem tyKd_of {kd : Kd} (S : Sim T F ι st H) (r : VRel T F ι st.length a x) (e : mkind st a = some kd) : tyKd kd x H := by
  unfold mkind at e
  split at e
  · rename_i q
    cases e
    cases (see_seen S r q).str
    exact ⟨_, rfl⟩
  · rename_i q
    cases e
    obtain ⟨p, xs, rfl, h, _⟩ := (see_seen S r q).list S.sub
    exact ⟨p, xs, rfl, h⟩
  · rename_i q
    cases e
    obtain ⟨p, rfl, ⟨kvs, h, _⟩ | ⟨kvs, h, _⟩⟩ := (see_seen S r q).dict S.sub
    · exact ⟨p, rfl, .inl ⟨kvs, h⟩⟩
    · exact ⟨p, rfl, .inr ⟨kvs, h⟩⟩
  · rename_i k q
    split at e
    · rename_i q2
      cases e
      cases see_r q
      cases r
      obtain ⟨_, xs, h, _⟩ := ml_of S q2
      exact ⟨_, xs, rfl, .inl h⟩
    · rename_i q2
      cases e
      cases see_r q
      cases r
      obtain ⟨_, ⟨kvs, h, _⟩ | ⟨kvs, h, _⟩⟩ := md_of S q2
      · exact ⟨_, rfl, .inl ⟨kvs, .inl h⟩⟩
      · exact ⟨_, rfl, .inr ⟨kvs, .inl h⟩⟩
    · cases e
  · cases e
theorem tyOk_str : TyOk X "str" (tyKd .str) := by
  intro pins σ H s x v I r ty
  obtain ⟨z, rfl⟩ := ty
  obtain ⟨t, rfl⟩ := r
  exact ⟨typeIs_str s z t, fun _ e => nomatch e⟩
theorem tyOk_list : TyOk X "list" (tyKd .list) := by
  intro pins σ H s x v I r ty
  obtain ⟨p, xs, rfl, h⟩ := ty
  cases r
  obtain ⟨_, its, n, _, _, e⟩ := lstR I h
  exact ⟨⟨_, e, rfl⟩, fun a q => by cases q; exact ⟨_, e, rfl⟩⟩
theorem tyOk_dict : TyOk X "dict" (tyKd .dict) := by
  intro pins σ H s x v I r ty
  obtain ⟨p, rfl, h⟩ := ty
  cases r
  obtain ⟨t1, t2, _⟩ := isD_at I h
  exact ⟨t1, fun a q => by cases q; exact t2 _ rfl⟩
/-- what a method does -/
def rMt (T : Tb) (m : Mt) : V → List V → Hp → VK → Prop := fun x xs H Q => ∃ F ι st a vs W σ, Sim T F ι st H ∧ VRel T F ι st.length a x ∧ VRelL T F ι st.length vs xs ∧ PostG (RV T) T W σ F ι st.length (mtV m a vs st) Q
/-- a method that only reads -/
theorem rMt.read {m : Mt} {xs : List V} (hm : ∀ c vs ws, mtC m c vs ws = none) (h : rMt T m x xs H Q) : ∃ F ι st d ds d', Sim T F ι st H ∧ SeenP T.K F H x d ∧ SL T.K F H xs ds ∧ mtP m d ds = some d' ∧ Ans T F H ι st.length (.p d') Q := by
  obtain ⟨F, ι, st, a, vs, W, σ, S, r, rl, p⟩ := h
  unfold mtV at p
  split at p
  · rename_i d
    split at p
    · rename_i ds q
      obtain ⟨o, h1, A⟩ := of_ans S p
      cases q2 : mtP m d ds with
      | none => rw [q2] at h1; cases h1
      | some d' =>
        rw [q2] at h1
        cases h1
        cases r with
        | p r => exact ⟨F, ι, st, d, ds, d', S, .dat r, sl_of S rl q, q2, A⟩
    · exact p.elim
  · rename_i k
    split at p
    · rename_i c hk
      rw [hm] at p
      simp only at p
      split at p
      · rename_i d ds q1 q2
        obtain ⟨o, h1, A⟩ := of_ans S p
        cases q3 : mtP m d ds with
        | none => rw [q3] at h1; cases h1
        | some d' =>
          rw [q3] at h1
          cases h1
          refine ⟨F, ι, st, d, ds, d', S, see_seen S r ?_, sl_of S rl q2, q3, A⟩
          simp [see, hk, q1]
      · exact p.elim
    · exact p.elim
  · exact p.elim
theorem mtr_by {id : String} {r' : V → List V → Hp → VK → Prop} (h : ∀ x xs H Q, r' x xs H Q → ∃ r, MtR X id r ∧ r x xs H Q) : MtR X id r' := fun pins s σ H x xs v us Q I rx rs q => by
  obtain ⟨r, h1, h2⟩ := h x xs H Q q
  exact h1 pins s σ H x xs v us Q I rx rs h2
/-- .. of a text -/
theorem rMt.str {m : Mt} {xs : List V} (hm : ∀ c vs ws, mtC m c vs ws = none) (hs : ∀ d ds d', mtP m d ds = some d' → ∃ s, d = .str s) (h : rMt T m x xs H Q) : ∃ F ι st s ds d', Sim T F ι st H ∧ x = .str s ∧ SL T.K F H xs ds ∧ mtS m s ds = some d' ∧ Ans T F H ι st.length (.p d') Q := by
  obtain ⟨F, ι, st, d, ds, d', S, h1, h2, h3, A⟩ := h.read hm
  obtain ⟨s, rfl⟩ := hs d ds d' h3
  exact ⟨F, ι, st, s, ds, d', S, h1.str, h2, h3, A⟩
theorem mm_split : MtR X "str.split" (rMt T .split) := mtr_by fun x xs H Q h => by
  obtain ⟨F, ι, st, s, ds, d', S, rfl, h2, h3, A⟩ := h.str (fun _ _ _ => rfl) (by intro d ds d' e; cases d <;> first | exact ⟨_, rfl⟩ | cases e)
  rcases ds with _ | ⟨d1, _ | ⟨d2, r⟩⟩
  · cases h3
  rotate_left
  · cases d1 <;> cases h3
  cases d1 <;> first | (cases h3; done) | skip
  · rename_i b
    obtain ⟨y, rfl, hy⟩ := h2.one'
    cases hy.str
    have h3 : (if (b.length == 0) = false ∧ s.length + 2 ≤ SZ then some (PyData.list ((Txt.split s b).map .str)) else none) = some d' := h3
    split at h3
    · rename_i hh
      cases h3
      exact ⟨_, mt_split, s, b, rfl, rfl, hh.1, by rw [← SZ_eq]; exact hh.2, A.lst S.sub (DatL.strs _)⟩
    · cases h3
theorem mm_join : MtR X "str.join" (rMt T .join) := mtr_by fun x xs H Q h => by
  obtain ⟨F, ι, st, s, ds, d', S, rfl, h2, h3, A⟩ := h.str (fun _ _ _ => rfl) (by intro d ds d' e; cases d <;> first | exact ⟨_, rfl⟩ | cases e)
  have key : ∀ (es : List PyData) (ys : List Str), strsOf es = some ys → joinSz ys s = true → d' = .str (Txt.join s ys) → ∀ p ws, xs = [.ref p] → DatL T.K F ws es → (SqL X.K H p ws ∨ SqT X.K H p ws) → ∃ r, MtR X "str.join" r ∧ r (.str s) xs H Q := fun es ys q1 q2 q3 p ws q4 l q5 => by
    subst q3 q4
    have := l.strsOf q1
    subst this
    exact ⟨_, mt_join, s, p, ys, rfl, rfl, q5, of_decide_eq_true q2, A.str⟩
  rcases ds with _ | ⟨d1, _ | ⟨d2, r⟩⟩
  · cases h3
  rotate_left
  · cases d1 <;> cases h3
  cases d1 <;> first | (cases h3; done) | skip
  · rename_i es
    obtain ⟨y, rfl, hy⟩ := h2.one'
    obtain ⟨p, ws, rfl, r1, l1⟩ := hy.list S.sub
    have h3 : (match strsOf es with | some ys => if joinSz ys s = true then some (PyData.str (Txt.join s ys)) else none | none => none) = some d' := h3
    split at h3
    · rename_i ys hys
      split at h3
      · rename_i hj
        cases h3
        exact key es ys hys hj rfl p ws rfl l1 (.inl (.inl r1))
      · cases h3
    · cases h3
  · rename_i es
    obtain ⟨y, rfl, hy⟩ := h2.one'
    obtain ⟨p, ws, rfl, r1, _, l1⟩ := hy.tup S.sub
    have h3 : (match strsOf es with | some ys => if joinSz ys s = true then some (PyData.str (Txt.join s ys)) else none | none => none) = some d' := h3
    split at h3
    · rename_i ys hys
      split at h3
      · rename_i hj
        cases h3
        exact key es ys hys hj rfl p ws rfl l1 (.inr (SqT.of r1))
      · cases h3
    · cases h3
theorem mm_lstrip : MtR X "str.lstrip" (rMt T .lstrip) := mtr_by fun x xs H Q h => by
  obtain ⟨F, ι, st, s, ds, d', S, rfl, h2, h3, A⟩ := h.str (fun _ _ _ => rfl) (by intro d ds d' e; cases d <;> first | exact ⟨_, rfl⟩ | cases e)
  rcases ds with _ | ⟨d1, _ | ⟨d2, r⟩⟩
  · cases h3
  rotate_left
  · cases d1 <;> cases h3
  cases d1 <;> first | (cases h3; done) | skip
  · rename_i b
    obtain ⟨y, rfl, hy⟩ := h2.one'
    cases hy.str
    have h3 : (if s.length ≤ SZ then some (PyData.str (Txt.lstripChars s b)) else none) = some d' := h3
    split at h3
    · rename_i hh
      cases h3
      exact ⟨_, mt_lstripChars, s, b, rfl, rfl, by rw [← SZ_eq]; exact hh, A.str⟩
    · cases h3
theorem mm_startswith : MtR X "str.startswith" (rMt T .startswith) := mtr_by fun x xs H Q h => by
  obtain ⟨F, ι, st, s, ds, d', S, rfl, h2, h3, A⟩ := h.str (fun _ _ _ => rfl) (by intro d ds d' e; cases d <;> first | exact ⟨_, rfl⟩ | cases e)
  rcases ds with _ | ⟨d1, _ | ⟨d2, r⟩⟩
  · cases h3
  rotate_left
  · cases d1 <;> cases h3
  cases d1 <;> first | (cases h3; done) | skip
  · rename_i b
    obtain ⟨y, rfl, hy⟩ := h2.one'
    cases hy.str
    cases h3
    exact ⟨_, mt_startswith, s, b, rfl, rfl, A.bl⟩
theorem mm_partition : MtR X "str.partition" (rMt T .partition) := mtr_by fun x xs H Q h => by
  obtain ⟨F, ι, st, s, ds, d', S, rfl, h2, h3, A⟩ := h.str (fun _ _ _ => rfl) (by intro d ds d' e; cases d <;> first | exact ⟨_, rfl⟩ | cases e)
  rcases ds with _ | ⟨d1, _ | ⟨d2, r⟩⟩
  · cases h3
  rotate_left
  · cases d1 <;> cases h3
  cases d1 <;> first | (cases h3; done) | skip
  · rename_i b
    obtain ⟨y, rfl, hy⟩ := h2.one'
    cases hy.str
    have h3 : (if (b.length == 0) = false ∧ s.length ≤ SZ then some (PyData.tuple [.str (Txt.partition s b).1, .str (Txt.partition s b).2.1, .str (Txt.partition s b).2.2]) else none) = some d' := h3
    split at h3
    · rename_i hh
      cases h3
      exact ⟨_, mt_partition, s, b, rfl, rfl, hh.1, by rw [← SZ_eq]; exact hh.2, A.tup S.sub (.cons (.str _) (.cons (.str _) (.cons (.str _) .nil)))⟩
    · cases h3

theorem mt_rpart : MtR X "str.rpartition" (fun x xs H Q => ∃ a b, x = .str a ∧ xs = [.str b] ∧ (b.length == 0) = false ∧ a.length ≤ sizeLine ∧
    ∀ p, H p = none → Q (.ref p) (upd H p (.tup [.str (Txt.rpartition a b).1, .str (Txt.rpartition a b).2.1, .str (Txt.rpartition a b).2.2]))) := by
  intro pins s σ H x xs v us Q I rx rs ⟨a, b, ex, es, hb, hz, q⟩
  subst ex
  subst es
  obtain ⟨t, rfl⟩ := rx
  obtain ⟨u1, rfl, u, rfl⟩ := vals1 rs
  refine call_meets F.slot_str_rpartition (typeIs_str _ _ _) F.entry_str_rpartition (F.args_str_rpartition_2 _ _) (meets_str_rpartition a b t u hb hz) ?_
  unfold Txt.rpartition at q
  revert q
  cases Builtin.Str.lastOccurrence a b 0 a.length with
  | none => exact fun q => laid_parts I q
  | some i => exact fun q => laid_parts I q
theorem mm_rpartition : MtR X "str.rpartition" (rMt T .rpartition) := mtr_by fun x xs H Q h => by
  obtain ⟨F, ι, st, s, ds, d', S, rfl, h2, h3, A⟩ := h.str (fun _ _ _ => rfl) (by intro d ds d' e; cases d <;> first | exact ⟨_, rfl⟩ | cases e)
  rcases ds with _ | ⟨d1, _ | ⟨d2, r⟩⟩
  · cases h3
  rotate_left
  · cases d1 <;> cases h3
  cases d1 <;> first | (cases h3; done) | skip
  · rename_i b
    obtain ⟨y, rfl, hy⟩ := h2.one'
    cases hy.str
    have h3 : (if (b.length == 0) = false ∧ s.length ≤ SZ then some (PyData.tuple [.str (Txt.rpartition s b).1, .str (Txt.rpartition s b).2.1, .str (Txt.rpartition s b).2.2]) else none) = some d' := h3
    split at h3
    · rename_i hh
      cases h3
      exact ⟨_, mt_rpart, s, b, rfl, rfl, hh.1, by rw [← SZ_eq]; exact hh.2, A.tup S.sub (.cons (.str _) (.cons (.str _) (.cons (.str _) .nil)))⟩
    · cases h3
/-- .. of a cell that changes -/
theorem rMt.write {m : Mt} {xs : List V} (hm : ∀ d ds, mtP m d ds = none) (h : rMt T m x xs H Q) : ∃ F ι st k c v c' vs W σ, Sim T F ι st H ∧ x = .ref (ι k) ∧ k < st.length ∧ st[k]? = some c ∧ VRelL T F ι st.length vs xs ∧ mtC m c vs (vs.map (see st)) = some (v, c') ∧ PostG (RV T) T W σ F ι st.length (.ok v (st.set k c')) Q := by
  obtain ⟨F, ι, st, a, vs, W, σ, S, r, rl, p⟩ := h
  unfold mtV at p
  split at p
  · split at p
    · rw [hm] at p; exact p.elim
    · exact p.elim
  · rename_i k
    split at p
    · rename_i c hk
      split at p
      · rename_i v c' q
        cases r with
        | r hl => exact ⟨F, ι, st, k, c, v, c', vs, W, σ, S, rfl, hl, hk, rl, q, p⟩
      · split at p
        · rw [hm] at p; exact p.elim
        · exact p.elim
    · exact p.elim
  · exact p.elim
theorem put_post {k : Nat} {v : Val} {c' : Cell} {o : HO} {z : V} (S : Sim T F ι st H) (hk : k < st.length) (f0 : F (ι k) = none) (p : PostG (RV T) T W σ F ι st.length (.ok v (st.set k c')) Q) (hc : CellR T F ι st.length (upd H (ι k) o) (ι k) c') (r : VRel T F ι st.length v z) : Q z (upd H (ι k) o) :=
  p F ι _ z (Next.refl _ _ _) (by simp) (S.put hk f0 hc) (by
    show VRel T F ι (st.set k c').length v z
    rw [List.length_set]; exact r)
theorem pl_of {k : Nat} {ds : List PyData} (S : Sim T F ι st H) (e : st[k]? = some (.pl ds)) : F (ι k) = none ∧ ∃ xs, H (ι k) = some (.lst xs) ∧ DatL T.K F xs ds := S.cel k _ e
theorem pd_of {k : Nat} {es : List (PyData × PyData)} (S : Sim T F ι st H) (e : st[k]? = some (.pd es)) : F (ι k) = none ∧ ((∃ kvs, H (ι k) = some (.dK kvs) ∧ DatK T.K F kvs es) ∨ ∃ kvs, H (ι k) = some (.dT kvs) ∧ DatT T.K F kvs es) := S.cel k _ e
theorem mm_append : MtR X "list.append" (rMt T .append) := mtr_by fun x xs H Q h => by
  obtain ⟨F, ι, st, k, c, v, c', vs, W, σ, S, rfl, hk, hc, rl, q, p⟩ := h.write (by intro d ds; cases d <;> first | rfl | (cases ds <;> rfl))
  unfold mtC at q
  simp only at q
  split at q
  · split at q
    · rename_i hz
      cases q
      obtain ⟨y, rfl, hy⟩ := rl.one
      cases hy with
      | p hy =>
        obtain ⟨f0, us, h1, h2⟩ := pl_of S hc
        exact ⟨_, mt_append, _, us, y, rfl, rfl, h1, by rw [h2.length, ← SZ_eq]; exact hz, put_post S hk f0 p ⟨f0, _, upd_same, h2.append (.cons hy .nil)⟩ (.p .non)⟩
    · cases q
  · split at q
    · rename_i hz
      cases q
      obtain ⟨y, rfl, hy⟩ := rl.one
      obtain ⟨f0, us, h1, h2⟩ := ml_of S hc
      exact ⟨_, mt_append, _, us, y, rfl, rfl, h1, by rw [← h2.length, ← SZ_eq]; exact hz, put_post S hk f0 p ⟨f0, _, upd_same, h2.append (.cons hy .nil)⟩ (.p .non)⟩
    · cases q
  · cases q
theorem DatL.dropLast {K : PySem.W.Frag} {F : Hp} {vs : List V} {ds : List PyData} (h : DatL K F vs ds) : DatL K F vs.dropLast ds.dropLast := by
  rw [List.dropLast_eq_take, List.dropLast_eq_take, h.length]
  exact h.take _
theorem VRelL.dropLast {F : Hp} {ι : Nat → Addr} {n : Nat} {vs : List Val} {xs : List V} (h : VRelL T F ι n vs xs) : VRelL T F ι n vs.dropLast xs.dropLast := by
  rw [List.dropLast_eq_take, List.dropLast_eq_take, h.length]
  exact h.take _
theorem mm_pop : MtR X "list.pop" (rMt T .pop) := mtr_by fun x xs H Q h => by
  obtain ⟨F, ι, st, k, c, v, c', vs, W, σ, S, rfl, hk, hc, rl, q, p⟩ := h.write (by intro d ds; cases d <;> first | rfl | (cases ds <;> rfl))
  unfold mtC at q
  simp only at q
  split at q
  · rename_i ds
    cases rl
    cases q2 : ds[ds.length - 1]? with
    | none => rw [q2] at q; cases q
    | some d =>
      rw [q2] at q
      cases q
      obtain ⟨f0, us, h1, h2⟩ := pl_of S hc
      obtain ⟨y, hy, hd⟩ := h2.get q2
      exact ⟨_, mt_pop, _, us, y, rfl, rfl, h1, by rw [h2.length]; exact hy, put_post S hk f0 p ⟨f0, _, upd_same, h2.dropLast⟩ (.p hd)⟩
  · rename_i ds
    cases rl
    cases q2 : ds[ds.length - 1]? with
    | none => rw [q2] at q; cases q
    | some d =>
      rw [q2] at q
      cases q
      obtain ⟨f0, us, h1, h2⟩ := ml_of S hc
      obtain ⟨y, hy, hd⟩ := h2.get q2
      exact ⟨_, mt_pop, _, us, y, rfl, rfl, h1, by rw [← h2.length]; exact hy, put_post S hk f0 p ⟨f0, _, upd_same, h2.dropLast⟩ hd⟩
  · cases q
/-- xs.extend(ys), two lists -/
theorem mt_extendR : MtR X "list.extend" (fun x vs H Q => ∃ l b xs zs, x = .ref l ∧ vs = [.ref b] ∧ H l = some (.lst xs) ∧ Rd H b (.lst zs) ∧ xs.length + zs.length ≤ sizeLine ∧ Q .non (upd H l (.lst (xs ++ zs)))) := by
  intro pins s σ H x vs v us Q I rx rv h
  obtain ⟨l, b, xs, zs, rfl, rfl, hH, hB, hz, q⟩ := h
  cases rx
  obtain ⟨u, rfl, ru⟩ := rv.one
  cases ru
  obtain ⟨z, its, n, r, hl, e⟩ := I.lstM hH
  obtain ⟨z2, its2, n2, r2, hl2, e2⟩ := lstR I hB
  have hsz : its.toArray.size + its2.toArray.size ≤ sizeLine := by rw [List.size_toArray, List.size_toArray]; omega
  have hlong : ¬ (!its.toArray.isEmpty && Builtin.List.listTooLong (its.toArray.size + its2.toArray.size)) = true := by
    rw [notLongL hsz, Bool.and_false]
    exact Bool.false_ne_true
  refine call_meets F.slot_list_extend ⟨_, e, rfl⟩ F.entry_list_extend (F.args_list_extend_2 _ _)
    (AutoSeq1.list_extend_list_list_0 l its.toArray n b its2.toArray n2 hlong (by rw [List.size_toArray]; omega) (by omega)) ⟨e, e2, ?_⟩
  refine ⟨.non, _, I.lset (its' := its ++ its2) hH e (by simp) (r.append r2) ?_, rfl, q⟩
  rw [List.length_append]
  omega
theorem mm_extend : MtR X "list.extend" (rMt T .extend) := mtr_by fun x xs H Q h => by
  obtain ⟨F, ι, st, k, c, v, c', vs, W, σ, S, rfl, hk, hc, rl, q, p⟩ := h.write (by intro d ds; cases d <;> first | rfl | (cases ds <;> rfl))
  unfold mtC at q
  simp only at q
  split at q
  · rename_i ds es hw
    split at q
    · rename_i hz
      cases q
      rcases vs with _ | ⟨w, _ | ⟨w2, r⟩⟩
      · simp at hw
      rotate_left
      · simp at hw
      obtain ⟨y, rfl, hy⟩ := rl.one
      have hw : see st w = .p (.list es) := by simpa using hw
      obtain ⟨b, zs, rfl, r1, l1⟩ := (see_seen S hy hw).list S.sub
      obtain ⟨f0, us, h1, h2⟩ := pl_of S hc
      exact ⟨_, mt_extendR, _, b, us, zs, rfl, rfl, h1, r1, by rw [h2.length, l1.length, ← SZ_eq]; exact hz, put_post S hk f0 p ⟨f0, _, upd_same, h2.append l1⟩ (.p .non)⟩
    · cases q
  · cases q

theorem DatK.snoc {K : PySem.W.Frag} {F : Hp} {k : Key} {v : V} {d : PyData} (hd : Dat K F v d) : ∀ {kvs : List (Key × V)} {es : List (PyData × PyData)}, DatK K F kvs es → DatK K F (kvs ++ [(k, v)]) (es ++ [(keyD k, d)])
  | _, _, .nil => .cons hd .nil
  | _, _, .cons h1 h2 => .cons h1 (DatK.snoc hd h2)
theorem DatK.mapP {K : PySem.W.Frag} {F : Hp} {k : Key} {v : V} {d : PyData} (hd : Dat K F v d) : ∀ {kvs : List (Key × V)} {es : List (PyData × PyData)}, DatK K F kvs es → DatK K F (kvs.map fun q => if q.1 = k then (q.1, v) else q) (es.map fun q => if keyEq q.1 (keyD k) = true then (q.1, d) else q)
  | _, _, .nil => .nil
  | _, _, .cons (k := kk) h1 h2 => by
    rw [List.map_cons, List.map_cons]
    have q : keyEq (keyD kk) (keyD k) = decide (kk = k) := keyD_eqv kk k
    simp only [q]
    by_cases z : kk = k
    · rw [if_pos z, if_pos (decide_eq_true z)]
      exact .cons hd (DatK.mapP hd h2)
    · rw [if_neg z, if_neg (by simpa using z)]
      exact .cons h1 (DatK.mapP hd h2)
theorem DatK.anyEq {K : PySem.W.Frag} {F : Hp} (k : Key) : ∀ {kvs : List (Key × V)} {es : List (PyData × PyData)}, DatK K F kvs es → (kvs.any fun kv => decide (kv.1 = k)) = es.any fun q => keyEq q.1 (keyD k)
  | _, _, .nil => rfl
  | _, _, .cons (k := kk) h1 h2 => by
    rw [List.any_cons, List.any_cons, DatK.anyEq k h2]
    have q : keyEq (keyD kk) (keyD k) = decide (kk = k) := keyD_eqv kk k
    simp only [q]
theorem DatT.noK {K : PySem.W.Frag} {F : Hp} : ∀ {kvs : List (List Key × V)} {es : List (PyData × PyData)}, DatT K F kvs es → (es.any fun q => isKey1 q.1) = false
  | _, _, .nil => rfl
  | _, _, .cons h1 h2 => by rw [List.any_cons, DatT.noK h2]; rfl
theorem DatK.put {K : PySem.W.Frag} {F : Hp} {k : Key} {v : V} {d : PyData} (hd : Dat K F v d) {kvs : List (Key × V)} {es : List (PyData × PyData)} (h : DatK K F kvs es) : DatK K F (L2.putK kvs k v) (Vm.putK es (keyD k) d) := by
  unfold L2.putK Vm.putK
  have e := h.anyEq k
  rw [e]
  split
  · exact h.mapP hd
  · exact h.snoc hd
theorem DatK.puts {K : PySem.W.Frag} {F : Hp} : ∀ {more : List (Key × V)} {fs : List (PyData × PyData)} {kvs : List (Key × V)} {es : List (PyData × PyData)}, DatK K F more fs → DatK K F kvs es → DatK K F (more.foldl (fun a q => L2.putK a q.1 q.2) kvs) (fs.foldl (fun a q => Vm.putK a q.1 q.2) es)
  | _, _, _, _, .nil, h => h
  | (k, v) :: more, (_, d) :: fs, kvs, es, h0, h => by
    cases h0 with
    | cons h1 h2 => exact DatK.puts (more := more) (fs := fs) (kvs := L2.putK kvs k v) (es := Vm.putK es (keyD k) d) h2 (DatK.put h1 h)
/-- d.update(o), two dicts -/
theorem mt_updateD : MtR X "dict.update" (fun x vs H Q => ∃ (d o : Addr) (kvs more : List (Key × V)), x = .ref d ∧ vs = [.ref o] ∧ d ≠ o ∧ H d = some (.dK kvs) ∧ Rd H o (.dK more) ∧ kvs.length + more.length ≤ sizeLine ∧ Q .non (upd H d (.dK (more.foldl (fun a q => L2.putK a q.1 q.2) kvs)))) := by
  intro pins s σ H x vs v us Q I rx rv h
  obtain ⟨d, o, kvs, more, rfl, rfl, hne, hH, hB, hz, q⟩ := h
  cases rx
  obtain ⟨u, rfl, ru⟩ := rv.one
  cases ru
  obtain ⟨z, hd, vs, rel, dd⟩ := dk_of I.hok hH
  obtain ⟨z2, hd2, vs2, rel2, dd2⟩ := dk_rd I.hok hB
  refine call_meetsIn PySem.F.slot_dict_update dd.typeIs PySem.F.entry_dict_update (PySem.F.args_dict_update_2 _ _) (PySem.meets_dict_update (mixKind X.prog X.w) d o hne hd2) ⟨vs, vs2, dd, dd2, by rw [← rel.length, ← rel2.length]; exact hz, fun h' dd' _ hs => ?_⟩
  have he : ∃ q, h'.get? d = some q := let ⟨q, _, _, hq, _⟩ := dd'; ⟨q, hq⟩
  have rel3 : ∀ {more : List (Key × V)} {vs2 : List (Key × Value)} {kvs : List (Key × V)} {vs : List (Key × Value)}, KV more vs2 → KV kvs vs → KV (more.foldl (fun a q => L2.putK a q.1 q.2) kvs) (PySem.merged vs vs2) := by
    intro more vs2 kvs vs r2 r
    induction r2 generalizing kvs vs with
    | nil => exact r
    | @cons p q _ _ h1 h2 ih =>
      refine ih ?_
      have e := r.put p.1 h1.2
      show KV (L2.putK _ p.1 p.2) (stored _ q.1 q.2)
      rw [← h1.1]
      exact e
  have hl : ∀ (more kvs : List (Key × V)), (more.foldl (fun a q => L2.putK a q.1 q.2) kvs).length ≤ kvs.length + more.length := by
    intro more
    induction more with
    | nil => intro kvs; exact Nat.le_refl _
    | cons p r ih =>
      intro kvs
      have h1 := ih (L2.putK kvs p.1 p.2)
      have h2 := length_putK kvs p.1 p.2
      rw [List.foldl_cons, List.length_cons]
      omega
  exact ⟨.non, _, d_write (t' := s.toks) I (by rw [hH]; exact True.intro) hs he (dk_new (Nat.le_trans (hl _ _) hz) hd (rel3 rel2 rel) dd'), rfl, q⟩
theorem mm_update : MtR X "dict.update" (rMt T .update) := mtr_by fun x xs H Q h => by
  obtain ⟨F, ι, st, k, c, v, c', vs, W, σ, S, rfl, hk, hc, rl, q, p⟩ := h.write (by intro d ds; cases d <;> first | rfl | (cases ds <;> rfl))
  unfold mtC at q
  simp only at q
  split at q
  · rename_i ds es
    split at q
    · rename_i hz
      cases q
      obtain ⟨y, rfl, hy⟩ := rl.one
      obtain ⟨f0, hcell⟩ := pd_of S hc
      cases hy with
      | p hy =>
        cases hy with
        | @dik b zs _ r1 l1 =>
          have ne : ι k ≠ b := fun e => by
            rw [← e] at r1
            rcases r1 with h3 | ⟨_, h3⟩ <;> (rw [f0] at h3; cases h3)
          rcases hcell with ⟨us, h1, h2⟩ | ⟨us, h1, h2⟩
          · exact ⟨_, mt_updateD, _, b, us, zs, rfl, rfl, ne, h1, S.sub.rd r1, by rw [lenK h2, lenK l1, ← SZ_eq]; exact hz.1, put_post S hk f0 p ⟨f0, .inl ⟨_, upd_same, l1.puts h2⟩⟩ (.p .non)⟩
          · rw [h2.noK] at hz
            cases hz.2.1
        | dit r1 l1 =>
          rw [l1.noK] at hz
          cases hz.2.2
    · cases q
  · cases q
end
end Vm
end

section
/-! V14: method calls as steps; isinstance; membership of a written tuple. -/
namespace Vm
open PySem L2 PySem.Spec PyProof.Rows

def mName : Mt → Str
  | .split => "split"
  | .join => "join"
  | .lstrip => "lstrip"
  | .partition => "partition"
  | .rpartition => "rpartition"
  | .startswith => "startswith"
  | .append => "append"
  | .extend => "extend"
  | .pop => "pop"
  | .popAt => "pop"
  | .clear => "clear"
  | .insert => "insert"
  | .get => "get"
  | .update => "update"
  | .dpop => "pop"
  | .items => "items"
  | .values => "values"
structure MF (X : Cx) (T : Tb) (m : Mt) where
  id : String
  slot : Slot (mT m) (mName m) id
  ty : typeOf (.builtin id) = pure (.type "method_descriptor")
  rule : MtR X id (rMt T m)
/-- the methods that are covered -/
def covM : Mt → Bool
  | .split | .join | .lstrip | .partition | .rpartition | .startswith | .append | .extend | .pop | .update => true
  | _ => false
theorem mf_of {X : Cx} {T : Tb} : ∀ m, covM m = true → Nonempty (MF X T m)
  | .split, _ => ⟨⟨_, F.slot_str_split, F.type_str_split, mm_split⟩⟩
  | .join, _ => ⟨⟨_, F.slot_str_join, F.type_str_join, mm_join⟩⟩
  | .lstrip, _ => ⟨⟨_, F.slot_str_lstrip, F.type_str_lstrip, mm_lstrip⟩⟩
  | .partition, _ => ⟨⟨_, F.slot_str_partition, F.type_str_partition, mm_partition⟩⟩
  | .rpartition, _ => ⟨⟨_, F.slot_str_rpartition, F.type_str_rpartition, mm_rpartition⟩⟩
  | .startswith, _ => ⟨⟨_, F.slot_str_startswith, F.type_str_startswith, mm_startswith⟩⟩
  | .append, _ => ⟨⟨_, F.slot_list_append, F.type_list_append, mm_append⟩⟩
  | .extend, _ => ⟨⟨_, F.slot_list_extend, F.type_list_extend, mm_extend⟩⟩
  | .pop, _ => ⟨⟨_, F.slot_list_pop, F.type_list_pop, mm_pop⟩⟩
  | .update, _ => ⟨⟨_, F.slot_dict_update, F.type_dict_update, mm_update⟩⟩
  | .popAt, h | .clear, h | .insert, h | .get, h | .dpop, h | .items, h | .values, h => by cases h
theorem pa_of : ∀ m, PlainAttrs (mT m)
  | .split | .join | .lstrip | .partition | .rpartition | .startswith => F.plainAttrs_str
  | .append | .extend | .pop | .popAt | .insert => F.plainAttrs_list
  | .clear | .get | .update | .dpop | .items | .values => F.plainAttrs_dict
theorem ty_of {X : Cx} : ∀ m, TyOk X (mT m) (tyKd (mKd m))
  | .split | .join | .lstrip | .partition | .rpartition | .startswith => tyOk_str
  | .append | .extend | .pop | .popAt | .insert => tyOk_list
  | .clear | .get | .update | .dpop | .items | .values => tyOk_dict
theorem supp_kd {m : Mt} {kd : Kd} (h : supp m kd = true) : kd = mKd m := by
  cases m <;> cases kd <;> first | rfl | cases h
section
variable {X : Cx} {T : Tb} {W : L2.WX} {Kt : Kit} {e o e1 e2 e3 : Expr} {es : List Expr} {pos p apos cpos p2 : Pos} {x : Str}
theorem de_mth {m : Mt} {a b : Ex} (hm : covM m = true) (h1 : DE X T W o (evalX Kt a)) (h2 : DA X T W (e :: es) (evalL Kt b))
    (hbase : attributeBase o (mName m) X.env (eval o X.env) = eval o X.env)
    (hfew : ((backTo cpos (starEach (e :: es) X.env)).all (fun x => !x.1) && (backToKw cpos (keywordEach [] X.env)).all (fun x => x.1.isSome)
      && decide ((e :: es).length + ([] : List Keyword).length + (if ([] : List Keyword).isEmpty then 0 else 1) < 30)) = true)
    (hline : (apos.endLine == cpos.line) = true) (hs : starEach (e :: es) X.env = (false, eval e X.env) :: starEach es X.env) (hplain : (backTo cpos (starEach es X.env)).any (·.1) = false) :
    DE X T W (.Call (.Attribute o (mName m) apos) (e :: es) [] cpos) (evalX Kt (.mth m a b)) := de_by fun σ F ι env st H Q S E p => by
  obtain ⟨mf⟩ := mf_of (X := X) (T := T) m hm
  rw [evalX] at p
  refine ⟨_, pe_mG (apos := apos) (cpos := cpos) (ty_of m) (pa_of m) mf.slot mf.ty mf.rule h1 h2 hbase hfew hline hs hplain, tEvG.imp (ev_go S E (PostG.bind (RA := RV T) p)) fun x H1 ⟨F1, ι1, v, st1, M, p1⟩ => ?_⟩
  split at p1
  · rename_i kd hk
    split at p1
    · rename_i hsup
      have e := supp_kd hsup
      subst e
      refine ⟨tyKd_of M.sim M.rel hk, tEvG.imp (ev_go M.sim (E.up M.nx M.le) (PostG.bind (RA := RL T) p1)) fun xs H2 ⟨F2, ι2, vs, st2, M2, p2⟩ => ?_⟩
      exact ⟨F2, ι2, st2, v, vs, W, σ, M2.sim, M.rel.up M2.nx M2.le, M2.rel, p2⟩
    · exact p1.elim
  · exact p1.elim
theorem de_mth0 {m : Mt} {a : Ex} (hm : covM m = true) (h1 : DE X T W o (evalX Kt a)) (hbase : attributeBase o (mName m) X.env (eval o X.env) = eval o X.env) (hline : (apos.endLine == cpos.line) = true) :
    DE X T W (.Call (.Attribute o (mName m) apos) [] [] cpos) (evalX Kt (.mth m a .nil)) := de_by fun σ F ι env st H Q S E p => by
  obtain ⟨mf⟩ := mf_of (X := X) (T := T) m hm
  rw [evalX] at p
  refine ⟨_, pe_mG0 (apos := apos) (cpos := cpos) (ty_of m) (pa_of m) mf.slot mf.ty mf.rule h1 hbase hline, tEvG.imp (ev_go S E (PostG.bind (RA := RV T) p)) fun x H1 ⟨F1, ι1, v, st1, M, p1⟩ => ?_⟩
  split at p1
  · rename_i kd hk
    split at p1
    · rename_i hsup
      have e := supp_kd hsup
      subst e
      rw [evalL] at p1
      exact ⟨tyKd_of M.sim M.rel hk, F1, ι1, st1, v, [], W, σ, M.sim, M.rel, .nil, p1⟩
    · exact p1.elim
  · exact p1.elim
/-- an expression that is never asked -/
theorem de_bad : DE X T W e (evalX Kt .bad) := ⟨fun pins s σ H Q I q => by
  obtain ⟨F, ι, env, st, S, E, p⟩ := q
  rw [evalX] at p
  exact p.elim
  all_goals (intros; contradiction)⟩
/-- x in NAME, a tuple of plain values that the module holds -/
def rIng (T : Tb) (neg : Bool) (ds : List PyData) : V → Hp → VK → Prop := fun x H Q => ∃ F ι st a d, Sim T F ι st H ∧ VRel T F ι st.length a x ∧ see st a = .p d ∧ flatD d = true ∧ ds.all flatD = true ∧ Q (.bl (if neg then !(ds.any fun z => PyData.eqv z d) else ds.any fun z => PyData.eqv z d)) H
theorem de_ing {neg : Bool} {a : Ex} {g : Nat} {q : Addr} {u : Value} {xs : List V} {ds : List PyData} (hK : X.K = T.K) (h1 : DE X T W e1 (evalX Kt a)) (hg : Gl X x) (hm : X.mg x = some (.ref q)) (hd : (x == ("__debug__" : Str)) = false) (hT : ∀ H, SqT X.K H q xs) (hD : DatL T.K (fun _ => none) xs ds) (hc : Kt.con g = some (.tuple ds))
    (hmk : behindInMarks (if neg then .NotIn else .In) (.Name x p) = false) :
    DE X T W (.Compare e1 [if neg then .NotIn else .In] [.Name x p] pos) (evalX Kt (.ing neg a g)) := by
  have h2 := pe_glob (pos := p) hg hm (show RelV (.ref q) (.ref q) from rfl) hd
  have key : OpR X (compareOp (if neg then .NotIn else .In)) (fun x y H Q => y = .ref q ∧ rIng T neg ds x H Q) := opr_by fun x y H Q h => by
    obtain ⟨rfl, F, ι, st, a, d, S, r, e, f1, f2, k⟩ := h
    have s1 := see_seen S r e
    have dx := s1.flat f1
    obtain ⟨k1, k2⟩ := inV_of dx f1 (hD.up (F := fun _ => none) (H := F) fun a o h => by cases h) f2
    cases neg with
    | false => exact ⟨_, op_in_seq, q, xs, rfl, .inr (hT H), flat_dat dx f1, k1, by rw [k2]; exact k⟩
    | true => exact ⟨_, op_notIn_seq, q, xs, rfl, .inr (hT H), flat_dat dx f1, k1, by rw [k2]; exact k⟩
  refine pe_imp (pe_cmpR (pos := pos) key h1 h2 hmk) fun σ H Q ⟨F, ι, env, st, S, E, p⟩ => ?_
  rw [evalX] at p
  refine tEvG.imp (ev_go S E (PostG.bind (RA := RV T) p)) fun x H1 ⟨F1, ι1, v, st1, M, p1⟩ => ?_
  rw [hc] at p1
  split at p1
  · rename_i d ds' q1 q2
    cases q2
    split at p1
    · rename_i hh
      exact ⟨rfl, F1, ι1, st1, v, d, M.sim, M.rel, q1, hh.1, hh.2, (ok_ans M.sim p1).bl⟩
    · exact p1.elim
  · exact p1.elim
end
end Vm
end

section
/-! V15: isinstance. -/
namespace Vm
open PySem L2 PySem.Spec PyProof.Rows

inductive TyZ (K : PySem.W.Frag) (H : Hp) : V → Value → Prop
  | x {x : V} {t : Value} : TyX K H x t → TyZ K H x t
  | fT {a : Addr} {o : Obj} {kvs : List (List Key × V)} : H a = some (.frz o (.dT kvs)) → TyZ K H (.ref a) (.type "dict")
  | ex {a d C : Addr} {fs : List (Str × V)} : H a = some (ExcH a (.ref C) d) → H d = some (.xd fs) → ExcC K C → TyZ K H (.ref a) (.ref C)
section
variable {X : Cx} {pins : List (Addr × Obj)} {σ : L2.St} {H : Hp} {s : Shared}
theorem kit_ofZ {x : V} {u t : Value} (I : Inv X pins σ H s) (rx : RelV x u) (ty : TyZ X.K H x t) : ∃ P : Heap → Prop, PySem.W.KitX X.K u t P ∧ P s.heap ∧ u ≠ .builtin "__main__.__loader__#opaque" := by
  cases ty with
  | x ty => exact kit_of I rx ty
  | @fT a ob kvs ea =>
    cases (show u = Value.ref a from rx)
    obtain ⟨_, _, _, xs, _, o, es, ep, h1, h2, _⟩ := (show ObjOk X.prog X.w H s.heap a (.frz ob (.dT kvs)) from I.hok a _ ea)
    exact ⟨_, PySem.W.kitx_dict, ⟨o, h1, h2.1⟩, fun z => nomatch z⟩
  | @ex a d C fs ea ed hC =>
    cases (show u = Value.ref a from rx)
    obtain ⟨⟨oe, vs, e1, e2, e3, e4⟩, _, _⟩ := I.hok a _ ea
    obtain ⟨mA, ⟨od, es, ep, h1, _⟩, _⟩ := (show ObjOk X.prog X.w H s.heap d (.xd fs) from I.hok d _ ed)
    refine ⟨_, PySem.W.kitx_exc (x := a) (C := C) (ox := oe) (od := some od) (by obtain ⟨cd, hc, _⟩ := PySem.W.any_some hC.hd; rw [hc]; rfl) hC.hg hC.hk hC.hs hC.ha hC.hn hC.ht hC.hm, ⟨e1, e2, by unfold PySem.W.notCls; rw [e4], ?_⟩, fun z => nomatch z⟩
    rw [e3]
    exact h1
theorem call_isiZ : CallR X (.builtin "isinstance") (fun xs H Q => ∃ (x c : V) (t u : Value) (b : Bool), xs = [x, c] ∧ ClsV c u ∧ TyZ X.K H x t ∧ PySem.W.kitOne X.K t u = some b ∧ Q (.bl b) H) := by
  intro pins s σ H xs us Q I r h
  obtain ⟨x, c, t, u, b, rfl, k, ty, e, q⟩ := h
  obtain ⟨u1, u2, rfl, r1, r2⟩ := vals2 r
  have e2 := k.eq r2
  subst e2
  obtain ⟨P, Z, p, hx⟩ := kit_ofZ I r1 ty
  exact PySem.W.kia_one Z I.kIn p e hx fun tk => ⟨.bl b, H, I.tok tk, rfl, q⟩
theorem call_isiTZ : CallR X (.builtin "isinstance") (fun xs H Q => ∃ (x : V) (tp : Addr) (cs : List V) (t : Value) (us : List Value) (b : Bool), xs = [x, .ref tp] ∧ H tp = some (.tup cs) ∧ Paired ClsV cs us ∧ TyZ X.K H x t ∧ PySem.W.kitAny X.K t us = some b ∧ Q (.bl b) H) := by
  intro pins s σ H xs us Q I r h
  obtain ⟨x, tp, cs, t, ws, b, rfl, hT, k, ty, e, q⟩ := h
  obtain ⟨u1, u2, rfl, r1, r2⟩ := vals2 r
  cases (show u2 = Value.ref tp from r2)
  obtain ⟨P, Z, p, hx⟩ := kit_ofZ I r1 ty
  obtain ⟨_, its, rv, o, h1, h2, n, h3⟩ := (show ObjOk X.prog X.w H s.heap tp (.tup cs) from I.hok tp _ hT)
  have e3 := ClsV.all k rv
  subst e3
  obtain ⟨oc, od, dt, sl⟩ := o
  simp only at h2 h3
  subst h2 h3
  exact PySem.W.kia_tup Z I.kIn p h1 e hx fun tk => ⟨.bl b, H, I.tok tk, rfl, q⟩
end
/-! ### the classes -/
def tyS : Ty → String
  | .str => "str"
  | .int => "int"
  | .bool => "bool"
  | .list => "list"
  | .tuple => "tuple"
  | .dict => "dict"
  | .verr => "ValueError"
  | .own _ => ""
def tyN : PyData → String
  | .none => "NoneType"
  | .bool _ => "bool"
  | .int _ => "int"
  | .str _ => "str"
  | .list _ => "list"
  | .tuple _ => "tuple"
  | .dict _ => "dict"
/-- the class as a value -/
def tyU (oc : Nat → Addr) : Ty → Value
  | .own c => .ref (oc c)
  | t => .type (tyS t)
def tyV1 (oc : Nat → Addr) : Ty → V
  | .own c => .ref (oc c)
  | t => .ty (tyS t)
theorem clsV_of (oc : Nat → Addr) (t : Ty) : ClsV (tyV1 oc t) (tyU oc t) := by
  cases t <;> first | exact .ty _ | exact .own _
def kitTab : List (String × Ty × Bool) := ["NoneType", "bool", "int", "str", "list", "tuple", "dict"].flatMap fun n => [Ty.str, .int, .bool, .list, .tuple, .dict, .verr].map fun t => (n, t, n == tyS t || (n == "bool" && t == .int))
theorem kitTab_ok : (kitTab.all fun q => kitB q.1 (tyS q.2.1) == some q.2.2) = true := by decide +kernel
theorem kit_b {K : PySem.W.Frag} {n : String} {t : Ty} {oc : Nat → Addr} (hn : n ∈ ["NoneType", "bool", "int", "str", "list", "tuple", "dict"]) (ht : isB t = true) : PySem.W.kitOne K (.type n) (tyU oc t) = some (n == tyS t || (n == "bool" && t == .int)) := by
  have e : tyU oc t = .type (tyS t) := by cases t <;> first | rfl | cases ht
  rw [e]
  refine kit_ty ?_
  have m : (n, t, n == tyS t || (n == "bool" && t == .int)) ∈ kitTab := List.mem_flatMap.mpr ⟨n, hn, List.mem_map.mpr ⟨t, (by cases t <;> first | (simp; done) | cases ht), rfl⟩⟩
  have := List.all_eq_true.mp kitTab_ok _ m
  simpa using this
/-- objects and exceptions: what their classes answer -/
structure OwnK (X : Cx) (T : Tb) (Kt : Kit) (oc : Nat → Addr) : Prop where
  x : ∀ c t b, Kt.isx c t = some b → ExcC X.K (T.exA c) ∧ PySem.W.kitOne X.K (.ref (T.exA c)) (tyU oc t) = some b
  p : ∀ c d, (Kt.isx c .verr).isSome = true → PySem.W.kitOne X.K (.type (tyN d)) (.ref (oc c)) = some false
  f : ∀ c n, (Kt.fl c).contains n = true → ExcC X.K (T.exA c) ∧ PySem.W.findIn X.K (.ref (T.exA c)) n = some none
  o : ∀ c t b, Kt.iso c t = some b → False
section
variable {X : Cx} {T : Tb} {Kt : Kit} {oc : Nat → Addr} {F H : Hp} {ι : Nat → Addr} {st : Store} {x : V} {a : Val} {d : PyData}
theorem tyD_eq {d : PyData} {t : Ty} (ht : isB t = true) : tyD d t = some (tyN d == tyS t || (tyN d == "bool" && t == .int)) := by
  cases t <;> first | (cases ht; done) | skip
  all_goals cases d <;> rfl
theorem tyN_mem (d : PyData) : tyN d ∈ ["NoneType", "bool", "int", "str", "list", "tuple", "dict"] := by cases d <;> simp [tyN]
theorem tyz_seen {K : PySem.W.Frag} (s : Sub F H) (h : SeenP K F H x d) {K' : PySem.W.Frag} : TyZ K' H x (.type (tyN d)) := by
  cases d with
  | none => cases h.non; exact .x (.base .non)
  | bool b => cases h.bl; exact .x (.base (.bl b))
  | int i => cases h.int; exact .x (.base (.int i))
  | str z => cases h.str; exact .x (.base (.str z))
  | list ds =>
    obtain ⟨p, xs, rfl, r | ⟨o, r⟩, _⟩ := h.list s
    · exact .x (.base (.lst r))
    · exact .x (.base (.frz r))
  | tuple ds =>
    obtain ⟨p, xs, rfl, r, _⟩ := h.tup s
    exact .x (.base (.tup r))
  | dict es =>
    obtain ⟨p, rfl, ⟨kvs, r | ⟨o, r⟩, _⟩ | ⟨kvs, r | ⟨o, r⟩, _⟩⟩ := h.dict s
    · exact .x (.base (.dK r))
    · exact .x (.fDict r)
    · exact .x (.base (.dT r))
    · exact .fT r
/-- a value's class and its answers -/
theorem isi_val {t0 : Ty} {b0 : Bool} (O : OwnK X T Kt oc) (S : Sim T F ι st H) (r : VRel T F ι st.length a x) (e0 : isiV Kt st a t0 = some b0) : ∃ tv, TyZ X.K H x tv ∧ ∀ t b, isiV Kt st a t = some b → PySem.W.kitOne X.K tv (tyU oc t) = some b := by
  have fin : ∀ n, n ∈ ["NoneType", "bool", "int", "str", "list", "tuple", "dict"] → TyZ X.K H x (.type n) → (∀ t b, isiV Kt st a t = some b → isB t = true ∧ b = (n == tyS t || (n == "bool" && t == .int))) → ∃ tv, TyZ X.K H x tv ∧ ∀ t b, isiV Kt st a t = some b → PySem.W.kitOne X.K tv (tyU oc t) = some b := fun n hn z h => ⟨_, z, fun t b e => by
    obtain ⟨h1, h2⟩ := h t b e
    rw [h2]
    exact kit_b hn h1⟩
  have s1 : ∀ {n : String} {t : Ty} {b : Bool}, (n = "tuple" ∨ n = "list" ∨ n = "dict") → isB t = true → b = (match t with | .tuple => decide (n = "tuple") | .list => decide (n = "list") | .dict => decide (n = "dict") | _ => false) → b = (n == tyS t || (n == "bool" && t == .int)) := by
    intro n t b hn ht hb
    rcases hn with rfl | rfl | rfl <;> (cases t <;> first | (cases ht; done) | exact hb)
  cases q : see st a with
  | p d =>
    refine ⟨_, tyz_seen S.sub (see_seen S r q), fun t b e => ?_⟩
    unfold isiV at e
    rw [q] at e
    simp only at e
    split at e
    · rename_i ht
      rw [tyD_eq ht] at e
      cases e
      exact kit_b (tyN_mem d) ht
    · split at e
      · split at e
        · rename_i hc
          cases e
          exact O.p _ d hc
        · cases e
      · cases e
  | x c fs =>
    have ea : a = .x c fs := by
      cases a with
      | r k =>
        cases h : st[k]? with
        | none => simp [see, h] at q
        | some c => cases q2 : seeC c <;> simp [see, h, q2] at q
      | _ => exact q
    subst ea
    unfold isiV at e0
    rw [q] at e0
    obtain ⟨hC, _⟩ := O.x _ _ _ e0
    cases r with
    | @x p d _ gs _ h1 h2 h3 =>
      have k1 : ∃ z, H p = some (ExcH p (.ref (T.exA c)) d) ∧ z = p := by
        rcases S.sub p _ h1 with h | ⟨⟨_, z⟩ | ⟨_, z⟩, _⟩
        · exact ⟨p, h, rfl⟩
        · cases z
        · cases z
      have k2 : H d = some (.xd gs) := by
        rcases S.sub d _ h2 with h | ⟨⟨_, z⟩ | ⟨_, z⟩, _⟩
        · exact h
        · cases z
        · cases z
      obtain ⟨_, k1, _⟩ := k1
      refine ⟨_, .ex k1 k2 hC, fun t b e => ?_⟩
      unfold isiV at e
      rw [q] at e
      exact (O.x _ _ _ e).2
  | t xs =>
    cases see_t q
    cases r with
    | t h1 h2 =>
      refine fin "tuple" (by simp) (.x (.base (.tup (S.sub.tup h1)))) fun t b e => ?_
      unfold isiV at e
      rw [q] at e
      simp only at e
      split at e
      · rename_i ht
        cases e
        exact ⟨ht, s1 (.inl rfl) ht (by cases t <;> rfl)⟩
      · cases e
  | l xs =>
    cases see_l q
    cases r with
    | @l p _ _ h1 h2 =>
      have z : TyZ X.K H (.ref p) (.type "list") := by
        rcases S.sub.rd (.inl h1) with r | ⟨o, r⟩
        · exact .x (.base (.lst r))
        · exact .x (.base (.frz r))
      refine fin "list" (by simp) z fun t b e => ?_
      unfold isiV at e
      rw [q] at e
      simp only at e
      split at e
      · rename_i ht
        cases e
        exact ⟨ht, s1 (.inr (.inl rfl)) ht (by cases t <;> rfl)⟩
      · cases e
  | r k =>
    cases see_r q
    cases r with
    | r hk =>
      unfold isiV at e0
      rw [q] at e0
      simp only at e0
      split at e0
      · exact (O.o _ _ _ e0).elim
      · rename_i vs hc
        obtain ⟨_, us, h1, _⟩ := ml_of S hc
        refine fin "list" (by simp) (.x (.base (.lst h1))) fun t b e => ?_
        unfold isiV at e
        rw [q] at e
        simp only [hc] at e
        split at e
        · rename_i ht
          cases e
          exact ⟨ht, s1 (.inr (.inl rfl)) ht (by cases t <;> rfl)⟩
        · cases e
      · rename_i vs hc
        obtain ⟨_, hh⟩ := md_of S hc
        have z : TyZ X.K H (.ref (ι k)) (.type "dict") := by
          rcases hh with ⟨us, h1, _⟩ | ⟨us, h1, _⟩
          · exact .x (.base (.dK h1))
          · exact .x (.base (.dT h1))
        refine fin "dict" (by simp) z fun t b e => ?_
        unfold isiV at e
        rw [q] at e
        simp only [hc] at e
        split at e
        · rename_i ht
          cases e
          exact ⟨ht, s1 (.inr (.inr rfl)) ht (by cases t <;> rfl)⟩
        · cases e
      · cases e0
theorem isi_any {tv : Value} : ∀ (ts : List Ty) (b : Bool), (∀ t b, isiV Kt st a t = some b → PySem.W.kitOne X.K tv (tyU oc t) = some b) → isiAny Kt st a ts = some b → PySem.W.kitAny X.K tv (ts.map (tyU oc)) = some b
  | [], b, _, e => e
  | t :: ts, b, h, e => by
    unfold isiAny at e
    rw [List.map_cons]
    unfold PySem.W.kitAny
    cases q : isiV Kt st a t with
    | none => rw [q] at e; cases e
    | some k =>
      rw [q] at e
      rw [h t k q]
      cases k with
      | true => exact e
      | false => exact isi_any ts b h e
/-- what a class expression stands for -/
def tV (v : V) : TE := fun _ H Q => Q v H
def tVs (vs : List V) : TA := fun _ H Q => Q vs H
end
section
variable {X : Cx} {T : Tb} {W : L2.WX} {Kt : Kit} {e e1 e2 e3 : Expr} {es : List Expr} {pos p p2 : Pos} {oc : Nat → Addr}
theorem pvs_nil : PA X [] (tVs []) := pa_imp pa_nil fun σ H Q h => h
theorem pvs_cons {v : V} {vs : List V} (h1 : PE X e (tV v)) (h2 : PA X es (tVs vs)) (hs : starEach (e :: es) X.env = (false, eval e X.env) :: starEach es X.env) : PA X (e :: es) (tVs (v :: vs)) := pa_imp (pa_cons h1 h2 hs) fun σ H Q h => h
theorem pv_ty {x : Str} {n : String} (hg : Gl X x) (hm : X.mg x = none) (hv : bootBuiltins x = some (.type n)) (hn : x ≠ "__name__") (hd : (x == ("__debug__" : Str)) = false) : PE X (.Name x pos) (tV (.ty n)) := pe_imp (pe_bltn hg hm hv (show RelV (.ty n) (.type n) from rfl) hn hd) fun σ H Q h => h
theorem pv_ref {x : Str} {q : Addr} (hg : Gl X x) (hm : X.mg x = some (.ref q)) (hd : (x == ("__debug__" : Str)) = false) : PE X (.Name x pos) (tV (.ref q)) := pe_imp (pe_glob hg hm (show RelV (.ref q) (.ref q) from rfl) hd) fun σ H Q h => h
theorem de_isi1 {a : Ex} {t : Ty} (O : OwnK X T Kt oc) (h1 : DE X T W e1 (evalX Kt a)) (h2 : PE X e2 (tV (tyV1 oc t))) (hg : Gl X "isinstance") (hm : X.mg "isinstance" = none)
    (hs1 : starEach [e1, e2] X.env = (false, eval e1 X.env) :: starEach [e2] X.env) (hs2 : starEach [e2] X.env = (false, eval e2 X.env) :: starEach [] X.env) (hpl : (backTo pos (starEach [e2] X.env)).any (·.1) = false) :
    DE X T W (.Call (.Name "isinstance" p) [e1, e2] [] pos) (evalX Kt (.isi a [t])) := pe_imp (pe_callB (p := p) call_isiZ hg hm boot_isinstance (pa_cons h1 (pvs_cons h2 pvs_nil hs2) hs1) (by decide) (by decide) hs1 hpl) fun σ H Q ⟨F, ι, env, st, S, E, q⟩ => by
  rw [evalX] at q
  refine tEvG.imp (ev_go S E (PostG.bind (RA := RV T) q)) fun x H1 ⟨F1, ι1, v, st1, M, q1⟩ => ?_
  split at q1
  · rename_i b hb
    have e0 : ∃ b0, isiV Kt st1 v t = some b0 := by
      unfold isiAny at hb
      cases z : isiV Kt st1 v t with
      | none => rw [z] at hb; cases hb
      | some k => exact ⟨k, rfl⟩
    obtain ⟨b0, e0⟩ := e0
    obtain ⟨tv, ty, k⟩ := isi_val O M.sim M.rel e0
    have hb' : b0 = b := by
      unfold isiAny at hb
      rw [e0] at hb
      cases b0 <;> (simp [isiAny] at hb; exact hb.symm)
    subst hb'
    exact ⟨x, _, tv, _, b0, rfl, clsV_of oc t, ty, k t b0 e0, (ok_ans M.sim q1).bl⟩
  · exact q1.elim
theorem de_isiT {a : Ex} {t : Ty} {ts : List Ty} {k : Nat} (O : OwnK X T Kt oc) (h1 : DE X T W e1 (evalX Kt a)) (h2 : PA X es (tVs ((t :: ts).map (tyV1 oc)))) (hl : (t :: ts).length ≤ SZ) (hg : Gl X "isinstance") (hm : X.mg "isinstance" = none)
    (hs1 : starEach [e1, .Tuple es k p2] X.env = (false, eval e1 X.env) :: starEach [.Tuple es k p2] X.env) (hs2 : starEach [.Tuple es k p2] X.env = (false, eval (.Tuple es k p2) X.env) :: starEach [] X.env) (hpl : (backTo pos (starEach [.Tuple es k p2] X.env)).any (·.1) = false) :
    DE X T W (.Call (.Name "isinstance" p) [e1, .Tuple es k p2] [] pos) (evalX Kt (.isi a (t :: ts))) := pe_imp (pe_callB (p := p) call_isiTZ hg hm boot_isinstance (pa_cons h1 (pa_cons (pe_tup h2) pa_nil hs2) hs1) (by decide) (by decide) hs1 hpl) fun σ H Q ⟨F, ι, env, st, S, E, q⟩ => by
  rw [evalX] at q
  refine tEvG.imp (ev_go S E (PostG.bind (RA := RV T) q)) fun x H1 ⟨F1, ι1, v, st1, M, q1⟩ => ?_
  split at q1
  · rename_i b hb
    have e0 : ∃ b0, isiV Kt st1 v t = some b0 := by
      unfold isiAny at hb
      cases z : isiV Kt st1 v t with
      | none => rw [z] at hb; cases hb
      | some k => exact ⟨k, rfl⟩
    obtain ⟨b0, e0⟩ := e0
    refine ⟨by rw [List.length_map, ← SZ_eq]; exact hl, fun tp htp => ?_⟩
    have S2 := M.sim.fx (FX.one (o := .tup ((t :: ts).map (tyV1 oc))) htp M.sim.sub)
    have r2 := M.rel.up (FX.one (o := .tup ((t :: ts).map (tyV1 oc))) htp M.sim.sub).next (Nat.le_refl _)
    obtain ⟨tv, ty, k⟩ := isi_val O S2 r2 e0
    have P : Paired ClsV ((t :: ts).map (tyV1 oc)) ((t :: ts).map (tyU oc)) := by
      generalize t :: ts = l
      induction l with
      | nil => exact .nil
      | cons a l ih => exact .cons (clsV_of oc a) ih
    exact ⟨x, tp, _, tv, _, b, rfl, upd_same, P, ty, isi_any _ _ k hb, ok_ans M.sim q1 _ _ _ (FX.one htp M.sim.sub) (.p (.bl b))⟩
  · exact q1.elim
end
end Vm
end

section
/-! V16: what is walked. -/
namespace Vm
open PySem L2 PySem.Spec PyProof.Rows

theorem SameT.refl (T : Tb) : SameT T T := ⟨rfl, rfl, rfl, rfl⟩
theorem SameT.trans {T1 T2 T3 : Tb} (a : SameT T1 T2) (b : SameT T2 T3) : SameT T1 T3 := ⟨b.K.trans a.K, b.ex.trans a.ex, b.ob.trans a.ob, b.tb.trans a.tb⟩
/-- while what is frozen stands, J gives the items -/
structure Wk (T : Tb) (F0 : Hp) (ι0 : Nat → Addr) (n0 : Nat) (vs : List Val) (J : It) : Prop where
  goes : ∀ T' F ι st H i v, SameT T T' → Next F0 ι0 n0 F ι → n0 ≤ st.length → Sim T' F ι st H → vs[i]? = some v → J.go i H
  yields : ∀ T' F ι st H i v x H', SameT T T' → Next F0 ι0 n0 F ι → n0 ≤ st.length → Sim T' F ι st H → vs[i]? = some v → J.yld i H x H' → ∃ F', FX F H F' H' ∧ VRel T F' ι st.length v x
  stops : ∀ T' F ι st H, SameT T T' → Next F0 ι0 n0 F ι → n0 ≤ st.length → Sim T' F ι st H → J.stop vs.length H
abbrev RI (T : Tb) : Hp → (Nat → Addr) → Nat → List Val → It → Prop := fun F ι n vs J => Wk T F ι n vs J
abbrev DI (X : Cx) (T : Tb) (W : L2.WX) (tg e : Expr) (f : Env → Store → R (List Val)) : Prop := PI X tg e (tEvG (RI T) T W f)
theorem pi_imp {X : Cx} {tg e : Expr} {t t' : TI} (h : PI X tg e t) (i : ∀ σ H Q, t' σ H Q → t σ H Q) : PI X tg e t' := ⟨fun pins s σ H Q I q => h.run pins s σ H Q I (i _ _ _ q)⟩
theorem pi_by {X : Cx} {tg e : Expr} {t' : TI} (h : ∀ σ H Q, t' σ H Q → ∃ t, PI X tg e t ∧ t σ H Q) : PI X tg e t' := ⟨fun pins s σ H Q I q => by
  obtain ⟨t, h1, h2⟩ := h σ H Q q
  exact h1.run pins s σ H Q I h2⟩
theorem di_by {X : Cx} {T : Tb} {W : L2.WX} {tg e : Expr} {f : Env → Store → R (List Val)} (h : ∀ σ F ι env st H Q, Sim T F ι st H → EnvR T F ι st.length σ env → PostG (RI T) T W σ F ι st.length (f env st) Q → ∃ t, PI X tg e t ∧ t σ H Q) : DI X T W tg e f :=
  pi_by fun σ H Q ⟨F, ι, env, st, S, E, p⟩ => h σ F ι env st H Q S E p
section
variable {T : Tb} {F H : Hp} {ι : Nat → Addr} {n : Nat} {st : Store}
theorem Wk.list {a : Addr} {xs : List V} {vs : List Val} (h : Rd F a (.lst xs)) (r : VRelL T F ι n vs xs) : Wk T F ι n vs (Itl T.K a) where
  goes T' F' ι' st H i v t N hn S e := by
    obtain ⟨x, hx, _⟩ := r.get e
    exact ⟨xs, x, .inl (S.sub.rd (Sub.rd N.sub h)), hx⟩
  yields T' F' ι' st H i v x H' t N hn S e y := by
    obtain ⟨rfl, y⟩ := y
    obtain ⟨x', hx, hr⟩ := r.get e
    have := y xs (.inl (S.sub.rd (Sub.rd N.sub h)))
    rw [hx] at this
    cases this
    exact ⟨F', FX.refl _ _, hr.up N hn⟩
  stops T' F' ι' st H t N hn S := ⟨xs, .inl (S.sub.rd (Sub.rd N.sub h)), by rw [r.length]; exact Nat.le_refl _⟩
theorem Wk.tup {a : Addr} {xs : List V} {vs : List Val} (h : F a = some (.tup xs)) (r : VRelL T F ι n vs xs) : Wk T F ι n vs (Itt T.K a) where
  goes T' F' ι' st H i v t N hn S e := by
    obtain ⟨x, hx, _⟩ := r.get e
    exact ⟨xs, x, SqT.of (S.sub.tup (N.f _ _ h)), hx⟩
  yields T' F' ι' st H i v x H' t N hn S e y := by
    obtain ⟨rfl, y⟩ := y
    obtain ⟨x', hx, hr⟩ := r.get e
    have := y xs (SqT.of (S.sub.tup (N.f _ _ h)))
    rw [hx] at this
    cases this
    exact ⟨F', FX.refl _ _, hr.up N hn⟩
  stops T' F' ι' st H t N hn S := ⟨xs, SqT.of (S.sub.tup (N.f _ _ h)), by rw [r.length]; exact Nat.le_refl _⟩
theorem Wk.str {z : Str} : Wk T F ι n ((charsOf z).map .p) (Its z) := by
  have len : ((charsOf z).map Val.p).length = z.cps.size := by simp [charsOf]
  have at_ : ∀ {i : Nat} {v : Val}, ((charsOf z).map Val.p)[i]? = some v → ∃ c, z.cps[i]? = some c ∧ v = .p (.str ⟨#[c]⟩) := fun {i v} e => by
    unfold charsOf at e
    rw [List.getElem?_map, List.getElem?_map, Array.getElem?_toList] at e
    cases q : z.cps[i]? with
    | none => rw [q] at e; cases e
    | some c => rw [q] at e; cases e; exact ⟨c, rfl, rfl⟩
  refine ⟨fun T' F' ι' st H i v t N hn S e => ?_, fun T' F' ι' st H i v x H' t N hn S e y => ?_, fun T' F' ι' st H t N hn S => ?_⟩
  · obtain ⟨c, h, _⟩ := at_ e
    exact (Array.getElem?_eq_some_iff.mp h).1
  · obtain ⟨c, h, rfl⟩ := at_ e
    obtain ⟨rfl, c', h', rfl⟩ := y
    rw [h] at h'
    cases h'
    exact ⟨F', FX.refl _ _, .p (.str _)⟩
  · rw [len]
    exact Nat.le_refl _
theorem Wk.range {lo hi : Int} : Wk T F ι n (rangeV lo hi) (Itr lo (hi - lo).toNat) := by
  have len : (rangeV lo hi).length = (hi - lo).toNat := by simp [rangeV]
  refine ⟨fun T' F' ι' st H i v t N hn S e => ?_, fun T' F' ι' st H i v x H' t N hn S e y => ?_, fun T' F' ι' st H t N hn S => ?_⟩
  · rcases Nat.lt_or_ge i (rangeV lo hi).length with h | h
    · rw [← len]; exact h
    · rw [List.getElem?_eq_none h] at e; cases e
  · obtain ⟨rfl, rfl⟩ := y
    unfold rangeV at e
    rw [List.getElem?_map] at e
    rcases Nat.lt_or_ge i (hi - lo).toNat with h | h
    · rw [List.getElem?_range h] at e
      cases e
      exact ⟨F', FX.refl _ _, .p (.int _)⟩
    · rw [List.getElem?_eq_none (by simpa using h)] at e; cases e
  · rw [len]; exact Nat.le_refl _
theorem enumV_get : ∀ (vs : List Val) (m i : Nat) (v : Val), (enumV m vs)[i]? = some v → ∃ w, vs[i]? = some w ∧ v = mkT [.p (.int ((m + i : Nat) : Int)), w]
  | [], _, _, _, e => by cases e
  | w :: vs, m, 0, _, e => by cases e; exact ⟨w, rfl, rfl⟩
  | w :: vs, m, i + 1, v, e => by
    obtain ⟨w', h1, h2⟩ := enumV_get vs (m + 1) i v e
    exact ⟨w', h1, by rw [h2, show m + 1 + i = m + (i + 1) by omega]⟩
theorem enumV_len : ∀ (vs : List Val) (m : Nat), (enumV m vs).length = vs.length
  | [], _ => rfl
  | w :: vs, m => by simp [enumV, enumV_len vs (m + 1)]
/-- a new pair -/
theorem pair_new {T' : Tb} {p : Addr} {x y : V} {v w : Val} (S : Sim T' F ι st H) (hp : H p = none) (r1 : VRel T F ι st.length v x) (r2 : VRel T F ι st.length w y) :
    ∃ F', FX F H F' (upd H p (.tup [x, y])) ∧ VRel T F' ι st.length (mkT [v, w]) (.ref p) :=
  ⟨_, FX.one hp S.sub, mkT_rel upd_same ((VRelL.cons r1 (.cons r2 .nil)).up (FX.one (o := .tup [x, y]) hp S.sub).next (Nat.le_refl _))⟩
theorem Wk.enum {a : Addr} {xs : List V} {vs : List Val} (h : Rd F a (.lst xs)) (r : VRelL T F ι n vs xs) : Wk T F ι n (enumV 0 vs) (Ite T.K a) where
  goes T' F' ι' st H i v t N hn S e := by
    obtain ⟨w, hw, _⟩ := enumV_get _ _ _ _ e
    obtain ⟨x, hx, _⟩ := r.get hw
    exact ⟨xs, x, .inl (S.sub.rd (Sub.rd N.sub h)), hx⟩
  yields T' F' ι' st H i v x H' t N hn S e y := by
    obtain ⟨w, hw, rfl⟩ := enumV_get _ _ _ _ e
    obtain ⟨p, z, rfl, hp, rfl, hz⟩ := y
    obtain ⟨x', hx, hr⟩ := r.get hw
    have := hz xs (.inl (S.sub.rd (Sub.rd N.sub h)))
    rw [hx] at this
    cases this
    have e0 : ((0 + i : Nat) : Int) = (i : Int) := by simp
    rw [e0]
    exact pair_new S hp (.p (.int _)) (hr.up N hn)
  stops T' F' ι' st H t N hn S := ⟨xs, .inl (S.sub.rd (Sub.rd N.sub h)), by rw [enumV_len, r.length]; exact Nat.le_refl _⟩
theorem zip_get {vs ws : List Val} {i : Nat} {v : Val} (e : ((vs.zip ws).map fun q => mkT [q.1, q.2])[i]? = some v) : ∃ a b, vs[i]? = some a ∧ ws[i]? = some b ∧ v = mkT [a, b] := by
  rw [List.getElem?_map] at e
  cases q : (vs.zip ws)[i]? with
  | none => rw [q] at e; cases e
  | some p =>
    rw [q] at e
    cases e
    obtain ⟨h1, h2⟩ := List.getElem?_zip_eq_some.mp q
    exact ⟨p.1, p.2, h1, h2, rfl⟩
theorem Wk.zipL {a b : Addr} {xs ys : List V} {vs ws : List Val} (h : Rd F a (.lst xs)) (r : VRelL T F ι n vs xs) (h' : Rd F b (.lst ys)) (r' : VRelL T F ι n ws ys) : Wk T F ι n ((vs.zip ws).map fun q => mkT [q.1, q.2]) (Itz T.K a b) where
  goes T' F' ι' st H i v t N hn S e := by
    obtain ⟨v1, v2, h1, h2, _⟩ := zip_get e
    obtain ⟨x, hx, _⟩ := r.get h1
    obtain ⟨y, hy, _⟩ := r'.get h2
    exact ⟨xs, ys, x, y, .inl (S.sub.rd (Sub.rd N.sub h)), .inl (S.sub.rd (Sub.rd N.sub h')), hx, hy⟩
  yields T' F' ι' st H i v x H' t N hn S e y := by
    obtain ⟨v1, v2, h1, h2, rfl⟩ := zip_get e
    obtain ⟨x, hx, r1⟩ := r.get h1
    obtain ⟨y', hy, r2⟩ := r'.get h2
    obtain ⟨p, z1, z2, rfl, hp, rfl, k1, k2⟩ := y
    have e1 := k1 xs (.inl (S.sub.rd (Sub.rd N.sub h)))
    have e2 := k2 ys (.inl (S.sub.rd (Sub.rd N.sub h')))
    rw [hx] at e1
    rw [hy] at e2
    cases e1
    cases e2
    exact pair_new S hp (r1.up N hn) (r2.up N hn)
  stops T' F' ι' st H t N hn S := ⟨xs, ys, .inl (S.sub.rd (Sub.rd N.sub h)), .inl (S.sub.rd (Sub.rd N.sub h')), by
    rw [List.length_map, List.length_zip, r.length, r'.length]; omega⟩
end
end Vm
end

section
/-! V17: what a for and a comprehension walk. -/
namespace Vm
open PySem L2 PySem.Spec PyProof.Rows

section
variable {α β : Type} {RB : Hp → (Nat → Addr) → Nat → α → β → Prop} {T : Tb} {W : L2.WX} {σ : L2.St} {F H : Hp} {ι : Nat → Addr} {st : Store} {v : Val} {x : V} {g : Val → Store → R α} {Q : β → Hp → Prop}
theorem set_same {k : Nat} {c : Cell} (h : st[k]? = some c) : st.set k c = st := by
  apply List.ext_getElem?
  intro i
  by_cases e : k = i
  · subst e
    rw [List.getElem?_set_self' , h]
    rfl
  · rw [List.getElem?_set_ne e]
/-- a pure cell is frozen -/
theorem frz_post (S : Sim T F ι st H) (r : VRel T F ι st.length v x) (p : PostG RB T W σ F ι st.length ((frzV v st).bind g) Q) :
    ∃ F' v' st', Next F ι st.length F' ι ∧ st'.length = st.length ∧ Sim T F' ι st' H ∧ VRel T F' ι st'.length v' x ∧ (∀ k, v' ≠ .r k) ∧ frzV v st = .ok v' st' ∧ PostG RB T W σ F' ι st'.length (g v' st') Q := by
  have stay : (∀ k, v ≠ .r k) → frzV v st = .ok v st := fun h => by
    cases v with
    | r k => exact absurd rfl (h k)
    | _ => rfl
  by_cases hr : ∃ k, v = .r k
  · obtain ⟨k, rfl⟩ := hr
    have hz2 : frzV (.r k) st = (match st[k]? with
      | some c => match seeC c with
        | some d => .ok (.p d) (st.set k (.fz d))
        | none => .no
      | none => .no) := rfl
    rw [hz2] at p
    clear hz2
    cases hc : st[k]? with
    | none => rw [hc] at p; exact p.elim
    | some c =>
      rw [hc] at p
      simp only at p
      cases q : seeC c with
      | none => rw [q] at p; exact p.elim
      | some d =>
        rw [q] at p
        simp only [R.bind_ok] at p
        cases r with
        | r hk =>
          have fin : ∀ o, F (ι k) = none → H (ι k) = some o → Dat T.K (upd F (ι k) o) (.ref (ι k)) d → ∃ F' v' st', Next F ι st.length F' ι ∧ st'.length = st.length ∧ Sim T F' ι st' H ∧ VRel T F' ι st'.length v' (.ref (ι k)) ∧ (∀ k, v' ≠ .r k) ∧ frzV (.r k) st = .ok v' st' ∧ PostG RB T W σ F' ι st'.length (g v' st') Q := fun o f0 ho hd => by
            obtain ⟨S2, N⟩ := S.freeze hk f0 ho hd
            exact ⟨_, .p d, st.set k (.fz d), N, by simp, S2, .p hd, (fun _ z => by cases z), by unfold frzV; simp only [hc, q], by rw [List.length_set]; exact p.up N (Nat.le_refl _) fun _ _ _ _ => trivial⟩
          have cc := S.cel k c hc
          cases c with
          | pl ds =>
            cases q
            obtain ⟨f0, xs, h1, h2⟩ := cc
            exact fin _ f0 h1 (.lst (.inl upd_same) (h2.up (F := F) (H := upd F (ι k) (.lst xs)) fun a u e => .inl (by rw [upd_ne (ne_of_none e f0)]; exact e)))
          | pd es =>
            cases q
            obtain ⟨f0, ⟨kvs, h1, h2⟩ | ⟨kvs, h1, h2⟩⟩ := cc
            · exact fin _ f0 h1 (.dik (.inl upd_same) (h2.up (T := T) (F := F) (F' := upd F (ι k) (.dK kvs)) fun a u e => .inl (by rw [upd_ne (ne_of_none e f0)]; exact e)))
            · exact fin _ f0 h1 (.dit (.inl upd_same) (h2.up (T := T) (F := F) (F' := upd F (ι k) (.dT kvs)) fun a u e => .inl (by rw [upd_ne (ne_of_none e f0)]; exact e)))
          | fz d' =>
            cases q
            rw [set_same hc] at p
            exact ⟨F, .p d, st, Next.refl _ _ _, rfl, S, .p cc.2, (fun _ z => by cases z), by unfold frzV; simp only [hc, seeC]; rw [set_same hc], p⟩
          | lk c => exact cc.elim
          | ml _ => cases q
          | md _ => cases q
          | ob _ _ => cases q
  · have hv : ∀ k, v ≠ .r k := fun k e => hr ⟨k, e⟩
    rw [stay hv] at p
    exact ⟨F, v, st, Next.refl _ _ _, rfl, S, r, hv, stay hv, p⟩
end
section
variable {T : Tb} {F H : Hp} {ι : Nat → Addr} {n : Nat} {st : Store} {v : Val} {x : V}
theorem asL_rd {vs : List Val} (r : VRel T F ι n v x) (e : asL v = some vs) : ∃ p xs, x = .ref p ∧ Rd F p (.lst xs) ∧ VRelL T F ι n vs xs := by
  cases v with
  | p d =>
    cases d with
    | list ds =>
      cases e
      cases r with
      | p r => cases r with | lst h1 h2 => exact ⟨_, _, rfl, h1, .ofDat h2⟩
    | _ => cases e
  | l ws =>
    cases e
    cases r with
    | l h1 h2 => exact ⟨_, _, rfl, .inl h1, h2⟩
  | _ => cases e
end
section
variable {X : Cx} {T : Tb} {W : L2.WX} {Kt : Kit} {tg e e1 e2 : Expr} {es : List Expr} {pos p p2 : Pos}
theorem frzV_er {v : Val} {st : Store} {c : Nat} {fs : List (Str × PyData)} {s : Store} : frzV v st ≠ .er c fs s := by
  unfold frzV
  split
  · split
    · split
      · exact fun z => by cases z
      · exact fun z => by cases z
    · exact fun z => by cases z
  · exact fun z => by cases z
/-- one value whose items are taken -/
theorem di_cons {a b : Ex} (hK : X.K = T.K) (h1 : DE X T W e (evalX Kt a)) : DI X T W tg e (evalI Kt (.cons a b)) := by
  refine di_by fun σ F ι env st H Q S E p => ?_
  rw [evalI] at p
  cases q : evalX Kt a env st with
  | no => rw [q] at p; exact p.elim
  | er c fs s => exact ⟨_, pi_str h1, tEvG.imp (ev_go S E (PostG.bindE (RA := RV T) p)) fun x H1 ⟨F1, ι1, v, st1, M, q1, p1⟩ => by rw [q] at q1; cases q1⟩
  | ok v st1 =>
    cases q2 : frzV v st1 with
    | no => rw [q] at p; simp only [R.bind_ok, q2] at p; exact p.elim
    | er c fs s => exact absurd q2 frzV_er
    | ok v' st2 =>
      have step : ∀ x H1, (∃ F1 ι1 v st1, Mid2 (RV T) T σ H1 F1 ι1 env v x st1 ∧ evalX Kt a env st = .ok v st1 ∧ PostG (RI T) T W σ F1 ι1 st1.length ((frzV v st1).bind fun x st1 => match itemsF x with
          | some vs => .ok vs st1
          | none => .no) Q) → ∃ F2 ι2, Sim T F2 ι2 st2 H1 ∧ VRel T F2 ι2 st2.length v' x ∧ PostG (RI T) T W σ F2 ι2 st2.length ((match itemsF v' with
          | some vs => .ok vs st2
          | none => .no) : R (List Val)) Q := fun x H1 ⟨F1, ι1, w, st3, M, q1, p1⟩ => by
        rw [q] at q1
        cases q1
        obtain ⟨F2, w', st4, N, hl, S2, r2, hn, k2, p2⟩ := frz_post M.sim M.rel p1
        rw [q2] at k2
        cases k2
        exact ⟨F2, ι1, S2, r2, p2⟩
      have go : ∀ {Q' : VK}, (∀ x H1, (∃ F2 ι2, Sim T F2 ι2 st2 H1 ∧ VRel T F2 ι2 st2.length v' x ∧ PostG (RI T) T W σ F2 ι2 st2.length ((match itemsF v' with
          | some vs => .ok vs st2
          | none => .no) : R (List Val)) Q) → Q' x H1) → tEvG (RV T) T W (evalX Kt a) σ H Q' := fun {Q'} k =>
        tEvG.imp (ev_go S E (PostG.bindE (RA := RV T) p)) fun x H1 ⟨F1, ι1, v, st1, M, q1, p1⟩ => k x H1 (step x H1 ⟨F1, ι1, v, st1, ⟨M.sim, E.up M.nx M.le, M.rel⟩, q1, p1⟩)
      have bad : itemsF v' = none → False := fun z => by
        rw [q] at p
        simp only [R.bind_ok, q2, z] at p
        exact p
      cases v' with
      | p d =>
        cases d with
        | list ds =>
          refine ⟨_, pi_list h1, go fun x H1 ⟨F2, ι2, S2, r2, p2⟩ => ?_⟩
          cases r2 with
          | p r2 =>
            cases r2 with
            | lst k1 k2 => exact ⟨_, rfl, ⟨_, .inl (S2.sub.rd k1)⟩, p2.now (Next.refl _ _ _) (Nat.le_refl _) S2 (by rw [hK]; exact Wk.list k1 (.ofDat k2))⟩
        | tuple ds =>
          refine ⟨_, pi_tup h1, go fun x H1 ⟨F2, ι2, S2, r2, p2⟩ => ?_⟩
          cases r2 with
          | p r2 =>
            cases r2 with
            | tup k1 k2 => exact ⟨_, rfl, ⟨_, SqT.of (S2.sub.tup k1)⟩, p2.now (Next.refl _ _ _) (Nat.le_refl _) S2 (by rw [hK]; exact Wk.tup k1 (.ofDat k2))⟩
        | str z =>
          refine ⟨_, pi_str h1, go fun x H1 ⟨F2, ι2, S2, r2, p2⟩ => ?_⟩
          cases r2 with
          | p r2 =>
            cases r2
            exact ⟨_, rfl, p2.now (Next.refl _ _ _) (Nat.le_refl _) S2 Wk.str⟩
        | _ => exact (bad rfl).elim
      | t vs =>
        refine ⟨_, pi_tup h1, go fun x H1 ⟨F2, ι2, S2, r2, p2⟩ => ?_⟩
        cases r2 with
        | t k1 k2 => exact ⟨_, rfl, ⟨_, SqT.of (S2.sub.tup k1)⟩, p2.now (Next.refl _ _ _) (Nat.le_refl _) S2 (by rw [hK]; exact Wk.tup k1 k2)⟩
      | l vs =>
        refine ⟨_, pi_list h1, go fun x H1 ⟨F2, ι2, S2, r2, p2⟩ => ?_⟩
        cases r2 with
        | l k1 k2 => exact ⟨_, rfl, ⟨_, .inl (S2.sub.rd (.inl k1))⟩, p2.now (Next.refl _ _ _) (Nat.le_refl _) S2 (by rw [hK]; exact Wk.list (.inl k1) k2)⟩
      | r _ => exact (bad rfl).elim
      | x _ _ => exact (bad rfl).elim
theorem di_rng1 {a : Ex} (hg : Gl X "range") (hm : X.mg "range" = none) (h1 : DA X T W [e] (evalL Kt (.cons a .nil))) (hs : starEach [e] X.env = [(false, eval e X.env)]) : DI X T W tg (.Call (.Name "range" p) [e] [] pos) (evalI Kt (.rng (.con (.int 0)) a)) :=
  pi_imp (pi_range1 (tg := tg) (p := p) (pos := pos) hg hm h1 hs) fun σ H Q ⟨F, ι, env, st, S, E, q⟩ => by
    rw [evalI, evalX] at q
    simp only [R.bind_ok] at q
    refine ev_go (f := evalL Kt (.cons a .nil)) S E ?_
    have q' : PostG (RI T) T W σ F ι st.length ((evalL Kt (.cons a .nil) env st).bind fun vs st2 => match vs with
      | [.p (.int j)] => if -(2 ^ 62) ≤ (0 : Int) ∧ (0 : Int) < 2 ^ 62 ∧ -(2 ^ 62) ≤ j ∧ j < 2 ^ 62 then .ok (rangeV 0 j) st2 else .no
      | _ => .no) Q := by
      rw [evalL]
      cases z : evalX Kt a env st with
      | no => rw [z] at q; exact q
      | er c fs s => rw [z] at q; exact q
      | ok v s =>
        rw [z] at q
        simp only [R.bind_ok, evalL] at q ⊢
        cases v with
        | p d => cases d with
          | int j => exact q
          | _ => exact q.elim
        | _ => exact q.elim
    refine (PostG.bind (RA := RL T) q').imp fun xs H1 ⟨F1, ι1, vs, st1, M, p1⟩ => ?_
    split at p1
    · split at p1
      · rename_i j hj
        obtain ⟨y, rfl, ry⟩ := M.rel.one
        cases ry with
        | p ry =>
          cases ry
          have w := p1.now (Next.refl _ _ _) (Nat.le_refl _) M.sim (Wk.range (T := T) (F := F1) (ι := ι1) (n := st1.length) (lo := 0) (hi := j))
          rw [Int.sub_zero] at w
          exact ⟨j, rfl, hj.2.2.1, hj.2.2.2, w⟩
      · exact p1.elim
    · exact p1.elim
theorem di_rng2 {a b : Ex} (hg : Gl X "range") (hm : X.mg "range" = none) (h1 : DA X T W [e1, e2] (evalL Kt (.cons a (.cons b .nil)))) (hs : starEach [e1, e2] X.env = [(false, eval e1 X.env), (false, eval e2 X.env)]) (hs2 : starEach [e2] X.env = [(false, eval e2 X.env)]) : DI X T W tg (.Call (.Name "range" p) [e1, e2] [] pos) (evalI Kt (.rng a b)) :=
  pi_imp (pi_range2 (tg := tg) (p := p) (pos := pos) hg hm h1 hs hs2) fun σ H Q ⟨F, ι, env, st, S, E, q⟩ => by
    rw [evalI] at q
    refine ev_go (f := evalL Kt (.cons a (.cons b .nil))) S E ?_
    have q' : PostG (RI T) T W σ F ι st.length ((evalL Kt (.cons a (.cons b .nil)) env st).bind fun vs st2 => match vs with
      | [.p (.int i), .p (.int j)] => if -(2 ^ 62) ≤ i ∧ i < 2 ^ 62 ∧ -(2 ^ 62) ≤ j ∧ j < 2 ^ 62 then .ok (rangeV i j) st2 else .no
      | _ => .no) Q := by
      rw [evalL]
      cases z : evalX Kt a env st with
      | no => rw [z] at q; exact q
      | er c fs s => rw [z] at q; exact q
      | ok v s =>
        rw [z] at q
        simp only [R.bind_ok, evalL] at q ⊢
        cases z2 : evalX Kt b env s with
        | no => rw [z2] at q; exact q
        | er c fs s => rw [z2] at q; exact q
        | ok w s2 =>
          rw [z2] at q
          simp only [R.bind_ok] at q ⊢
          cases v with
          | p d => cases d with
            | int i =>
              cases w with
              | p d => cases d with
                | int j => exact q
                | _ => exact q.elim
              | _ => exact q.elim
            | _ => exact q.elim
          | _ => exact q.elim
    refine (PostG.bind (RA := RL T) q').imp fun xs H1 ⟨F1, ι1, vs, st1, M, p1⟩ => ?_
    split at p1
    · split at p1
      · rename_i i j hj
        obtain ⟨y, y2, rfl, ry, ry2⟩ := M.rel.two
        cases ry with
        | p ry =>
          cases ry2 with
          | p ry2 =>
            cases ry
            cases ry2
            exact ⟨i, j, rfl, hj, p1.now (Next.refl _ _ _) (Nat.le_refl _) M.sim Wk.range⟩
      · exact p1.elim
    · exact p1.elim
end
end Vm
end

section
/-! V18: targets. -/
namespace Vm
open PySem L2 PySem.Spec PyProof.Rows

structure EnvW (T : Tb) (F : Hp) (ι : Nat → Addr) (n : Nat) (σ : L2.St) (env : Env) (rem : List Nat) : Prop where
  len : env.length ≤ σ.length
  at_ : ∀ (i : Nat) (v : Val), env[i]? = some (some v) → i ∈ rem ∨ ∃ x : V, σ[i]? = some (some x) ∧ VRel T F ι n v x
section
variable {T T' : Tb} {F F' : Hp} {ι ι' : Nat → Addr} {n n' : Nat} {σ : L2.St} {env : Env} {rem : List Nat} {i : Nat} {v : Val} {x : V}
theorem EnvR.w (E : EnvR T F ι n σ env) : EnvW T F ι n σ env rem := ⟨E.len, fun i v e => .inr (E.at_ i v e)⟩
theorem EnvW.r (E : EnvW T F ι n σ env []) : EnvR T F ι n σ env := ⟨E.len, fun i v e => (E.at_ i v e).resolve_left (by simp)⟩
theorem EnvR.to (E : EnvR T F ι n σ env) (h : SameT T T') : EnvR T' F ι n σ env := ⟨E.len, fun i v e => let ⟨x, h1, h2⟩ := E.at_ i v e; ⟨x, h1, h2.to h⟩⟩
theorem EnvW.step (E : EnvW T F ι n σ env (i :: rem)) (r : VRel T F ι n v x) : EnvW T F ι n (σ.set i (some x)) (env.set i (some v)) rem := by
  refine ⟨by rw [List.length_set, List.length_set]; exact E.len, fun j w e => ?_⟩
  by_cases h : i = j
  · subst h
    have hi : i < env.length := by
      rcases Nat.lt_or_ge i env.length with h | h
      · exact h
      · rw [List.getElem?_eq_none (by simpa using h)] at e; cases e
    rw [List.getElem?_set_self hi] at e
    cases e
    exact .inr ⟨x, by rw [List.getElem?_set_self (Nat.lt_of_lt_of_le hi E.len)], r⟩
  · rw [List.getElem?_set_ne h] at e
    rw [List.getElem?_set_ne h]
    rcases E.at_ j w e with k | k
    · rcases List.mem_cons.mp k with k | k
      · exact absurd k.symm h
      · exact .inl k
    · exact .inr k
theorem wipe_none : ∀ {vs : List Nat} {σ : L2.St} {i : Nat}, i ∉ vs → (wipe σ vs)[i]? = σ[i]?
  | [], _, _, _ => rfl
  | v :: vs, σ, i, h => by
    unfold wipe
    rw [List.getElem?_set_ne (fun e => h (by rw [e]; simp))]
    exact wipe_none (fun m => h (List.mem_cons_of_mem _ m))
theorem wipe_at : ∀ {vs : List Nat} {σ : L2.St} {i : Nat}, i ∈ vs → i < σ.length → (wipe σ vs)[i]? = some none
  | v :: vs, σ, i, h, hl => by
    unfold wipe
    by_cases e : v = i
    · subst e
      rw [List.getElem?_set_self (by rw [wipe_length]; exact hl)]
    · rw [List.getElem?_set_ne e]
      exact wipe_at ((List.mem_cons.mp h).resolve_left fun z => e z.symm) hl
theorem wipe_set {vs : List Nat} {i : Nat} {o : Option V} (h : i ∈ vs) (σ : L2.St) : wipe (σ.set i o) vs = wipe σ vs := by
  apply List.ext_getElem?
  intro j
  by_cases m : j ∈ vs
  · by_cases hl : j < σ.length
    · rw [wipe_at m hl, wipe_at m (by simpa using hl)]
    · rw [List.getElem?_eq_none (by rw [wipe_length]; simpa using hl), List.getElem?_eq_none (by rw [wipe_length]; simpa using hl)]
  · rw [wipe_none m, wipe_none m, List.getElem?_set_ne]
    intro e
    subst e
    exact m h
theorem EnvR.wipe {vs is : List Nat} (E : EnvR T F ι n σ env) (h : ∀ i ∈ vs, i ∈ is) : EnvW T F ι n (L2.wipe σ vs) env is := ⟨by rw [wipe_length]; exact E.len, fun i v e => by
  by_cases m : i ∈ vs
  · exact .inl (h i m)
  · obtain ⟨x, h1, h2⟩ := E.at_ i v e
    exact .inr ⟨x, by rw [wipe_none m]; exact h1, h2⟩⟩
end
/-- the names take the values -/
def setsV : List Nat → List V → L2.St → L2.St
  | i :: is, x :: xs, σ => setsV is xs (σ.set i (some x))
  | _, _, σ => σ
def gNs : List Nat → TGs
  | [] => gNil
  | i :: is => gCons (gName i) (gNs is)
theorem gNs_of : ∀ {is : List Nat} {xs : List V} {σ : L2.St} {H : Hp} {Q : L2.St → Hp → Prop}, xs.length = is.length → Q (setsV is xs σ) H → gNs is xs σ H Q
  | [], [], _, _, _, _, q => ⟨rfl, q⟩
  | i :: is, x :: xs, σ, H, Q, h, q => ⟨x, xs, rfl, gNs_of (is := is) (xs := xs) (by simpa using h) q⟩
  | [], _ :: _, _, _, _, h, _ => by simp at h
  | _ :: _, [], _, _, _, h, _ => by simp at h
/-- a target of names is, by what is known -/
def tG (T : Tb) (is : List Nat) : TG := fun x σ H K => ∃ F ι st v env env1, Sim T F ι st H ∧ VRel T F ι st.length v x ∧ EnvW T F ι st.length σ env is ∧ bindV st is v env = some env1 ∧
  ∀ σ2, EnvR T F ι st.length σ2 env1 → (∀ vs, (∀ i ∈ is, i ∈ vs) → wipe σ2 vs = wipe σ vs) → K σ2 H
abbrev DG (X : Cx) (T : Tb) (tg : Expr) (is : List Nat) : Prop := PG X tg (tG T is)
theorem pg_imp {X : Cx} {e : Expr} {t t' : TG} (h : PG X e t) (i : ∀ x σ H Q, t' x σ H Q → t x σ H Q) : PG X e t' := ⟨fun pins s σ H v u Q I r q => h.run pins s σ H v u Q I r (i _ _ _ _ q)⟩
theorem sets_env {T : Tb} {F : Hp} {ι : Nat → Addr} {n : Nat} : ∀ {is : List Nat} {vs : List Val} {xs : List V} {σ : L2.St} {env : Env}, EnvW T F ι n σ env is → VRelL T F ι n vs xs → vs.length = is.length → EnvR T F ι n (setsV is xs σ) ((is.zip vs).foldl (fun e q => e.set q.1 (some q.2)) env) ∧ ∀ ws, (∀ i ∈ is, i ∈ ws) → wipe (setsV is xs σ) ws = wipe σ ws
  | [], [], _, σ, env, E, .nil, _ => ⟨E.r, fun _ _ => rfl⟩
  | i :: is, v :: vs, _, σ, env, E, .cons (x := x) (xs := xs) h1 h2, hl => by
    obtain ⟨k1, k2⟩ := sets_env (is := is) (E.step h1) h2 (by simpa using hl)
    exact ⟨k1, fun ws hw => (k2 ws fun j hj => hw j (List.mem_cons_of_mem _ hj)).trans (wipe_set (hw i (by simp)) σ)⟩
  | [], _ :: _, _, _, _, _, _, hl => by simp at hl
  | _ :: _, [], _, _, _, _, _, hl => by simp at hl
section
variable {X : Cx} {T : Tb} {tg : Expr} {es : List Expr} {pos : Pos}
theorem dg_name {i : Nat} (h : PG X tg (gName i)) : DG X T tg [i] := pg_imp h fun x σ H Q ⟨F, ι, st, v, env, env1, S, r, E, e, k⟩ => by
  have e' : env1 = env.set i (some v) := by unfold bindV at e; exact (Option.some.inj e).symm
  subst e'
  exact k _ (E.step r).r fun vs hv => wipe_set (hv i (by simp)) σ
theorem dg_tup {is : List Nat} {k : Nat} (hK : X.K = T.K) (hc : X.calm = true) (h : PGs X es (gNs is)) (hl : is.length ≠ 1) (hn : (assignEach es X.env).length = is.length) (hst : (assignEach es X.env).findIdx? (·.1) = none) : DG X T (.Tuple es k pos) is :=
  pg_imp (pg_tup hc h hn hst) fun x σ H Q ⟨F, ι, st, v, env, env1, S, r, E, e, kk⟩ => by
    have key : ∃ p xs vs, x = .ref p ∧ H p = some (.tup xs) ∧ VRelL T F ι st.length vs xs ∧ vs.length = is.length ∧ env1 = (is.zip vs).foldl (fun e q => e.set q.1 (some q.2)) env := by
      unfold bindV at e
      split at e
      · exact absurd rfl hl
      · split at e
        · rename_i ds q
          split at e
          · rename_i hz
            obtain ⟨p, xs, rfl, h1, _, h2⟩ := (see_seen S r q).tup S.sub
            exact ⟨p, xs, ds.map .p, rfl, h1, .ofDat h2, by simpa using hz, (Option.some.inj e).symm⟩
          · cases e
        · rename_i vs q
          split at e
          · rename_i hz
            cases see_t q
            cases r with
            | t h1 h2 => exact ⟨_, _, vs, rfl, S.sub.tup h1, h2, hz, (Option.some.inj e).symm⟩
          · cases e
        · cases e
    obtain ⟨p, xs, vs, rfl, h1, h2, h3, rfl⟩ := key
    obtain ⟨k1, k2⟩ := sets_env E h2 h3
    exact ⟨p, xs, rfl, SqT.of h1, by rw [← h2.length]; exact h3, gNs_of (by rw [← h2.length]; exact h3) (kk _ k1 k2)⟩
end
end Vm
end

section
/-! V19: list comprehensions. -/
namespace Vm
open PySem L2 PySem.Spec PyProof.Rows

section
variable {T : Tb} {F H : Hp} {ι : Nat → Addr} {st : Store} {D : Addr} {o o' : HO}
theorem Sim.melt (S : Sim (T.wG (upd T.G D o)) F ι st H) (hD : T.G D = none) : Sim T F ι st H ∧ H D = some o ∧ F D = none ∧ (∀ k, k < st.length → ι k ≠ D) ∧ ∀ p ∈ T.tb, p.1 ≠ D := by
  have g : (T.wG (upd T.G D o)).G D = some o := upd_same
  refine ⟨⟨S.sub, fun k c e => (S.cel k c e).to (SameT.wG T _).symm, S.inj, fun a u e => ?_, fun a u e => ?_, fun q hq => ⟨(S.tb q hq).1, (S.tb q hq).2.1, ?_⟩, S.nt.1, fun a ps z => S.nt.2 a ps (by show upd T.G D o a = _; rw [upd_ne fun y => by rw [y, hD] at z; cases z]; exact z)⟩, S.gd D o g, (S.gf D o g).1, (S.gf D o g).2, fun q hq z => by
    have e : upd T.G D o q.1 = none := (S.tb q hq).2.2
    rw [z, upd_same] at e
    cases e⟩
  rotate_left 2
  · have e : upd T.G D o q.1 = none := (S.tb q hq).2.2
    have ne : q.1 ≠ D := fun z => by rw [z, upd_same] at e; cases e
    rwa [upd_ne ne] at e
  · have ne : a ≠ D := fun z => by rw [z, hD] at e; cases e
    exact S.gd a u (by show upd T.G D o a = some u; rw [upd_ne ne]; exact e)
  · have ne : a ≠ D := fun z => by rw [z, hD] at e; cases e
    exact S.gf a u (by show upd T.G D o a = some u; rw [upd_ne ne]; exact e)
theorem Sim.idx (S : Sim T F ι st H) {k : Nat} {c : Cell} (e : st[k]? = some c) : k < st.length := by
  rcases Nat.lt_or_ge k st.length with h | h
  · exact h
  · rw [List.getElem?_eq_none h] at e; cases e
theorem Sim.reguard (S : Sim (T.wG (upd T.G D o)) F ι st H) (ho : ∀ φ, o ≠ .ext φ) (no : ∀ ps, o' ≠ .tbl ps := by intro _ z; cases z) : Sim (T.wG (upd T.G D o')) F ι st (upd H D o') := by
  have g : (T.wG (upd T.G D o)).G D = some o := upd_same
  obtain ⟨f0, ne⟩ := S.gf D o g
  refine ⟨fun a u e => ?_, fun k c e => ?_, S.inj, fun a u e => ?_, fun a u e => ?_, fun q hq => ?_, S.nt.1, fun a ps z => ?_⟩
  rotate_left 5
  · have z : upd T.G D o' a = some (.tbl ps) := z
    by_cases e : a = D
    · rw [e, upd_same] at z
      exact no ps (Option.some.inj z)
    · rw [upd_ne e] at z
      exact S.nt.2 a ps (by show upd T.G D o a = _; rw [upd_ne e]; exact z)
  rotate_left 4
  · obtain ⟨t, h1, h2⟩ := S.tb q hq
    have e : upd T.G D o q.1 = none := h2
    have ne : q.1 ≠ D := fun z => by rw [z, upd_same] at e; cases e
    refine ⟨tabS_upd t ne fun c x e z => ?_, h1, ?_⟩
    · rw [z, S.gd D o g] at e
      exact ho _ (Option.some.inj e)
    · show upd T.G D o' q.1 = none
      rw [upd_ne ne] at e ⊢
      exact e
  · have : a ≠ D := ne_of_none e f0
    rcases S.sub a u e with h | ⟨q, ob, h⟩
    · exact .inl (by rw [upd_ne this]; exact h)
    · exact .inr ⟨q, ob, by rw [upd_ne this]; exact h⟩
  · exact ((S.cel k c e).to ((SameT.wG T _).symm.trans (SameT.wG T (upd T.G D o')))).el (Next.refl _ _ _) (Nat.le_refl _) (fun u h => by rw [upd_ne (ne k (S.idx e))]; exact h) fun h => h
  · by_cases h : a = D
    · subst h
      have e : upd T.G a o' a = some u := e
      rw [upd_same] at e ⊢
      exact e
    · have e : upd T.G D o' a = some u := e
      rw [upd_ne h] at e ⊢
      exact S.gd a u (by show upd T.G D o a = some u; rw [upd_ne h]; exact e)
  · by_cases h : a = D
    · subst h
      exact ⟨f0, ne⟩
    · have e : upd T.G D o' a = some u := e
      rw [upd_ne h] at e
      exact S.gf a u (by show upd T.G D o a = some u; rw [upd_ne h]; exact e)
/-- it becomes frozen -/
theorem Sim.adoptF (S : Sim T F ι st H) (hD : T.G D = none) (h : H D = some o) (f0 : F D = none) (ne : ∀ k, k < st.length → ι k ≠ D) (nt : ∀ p ∈ T.tb, p.1 ≠ D) (no : ∀ ps, o ≠ .tbl ps := by intro _ z; cases z) : Sim T (upd F D o) ι st H ∧ Next F ι st.length (upd F D o) ι := by
  have N : Next F ι st.length (upd F D o) ι := ⟨fun a u e => by rw [upd_ne (ne_of_none e f0)]; exact e, fun _ _ => rfl⟩
  refine ⟨⟨fun a u e => ?_, fun k c e => ?_, S.inj, S.gd, fun a u e => ?_, fun q hq => ⟨(S.tb q hq).1, by rw [upd_ne (nt q hq)]; exact (S.tb q hq).2.1, (S.tb q hq).2.2⟩, fun a ps z => by
    by_cases e : a = D
    · rw [e, upd_same] at z
      exact no ps (Option.some.inj z)
    · rw [upd_ne e] at z
      exact S.nt.1 a ps z, S.nt.2⟩, N⟩
  · by_cases z : a = D
    · subst z
      rw [upd_same] at e
      cases e
      exact .inl h
    · rw [upd_ne z] at e
      exact S.sub a u e
  · exact (S.cel k c e).el N (Nat.le_refl _) (fun u h => h) fun z => by rw [upd_ne (ne k (S.idx e))]; exact z
  · have z : a ≠ D := fun z => by rw [z, hD] at e; cases e
    exact ⟨by rw [upd_ne z]; exact (S.gf a u e).1, (S.gf a u e).2⟩
/-- it becomes a cell -/
theorem Sim.adoptC {c : Cell} (S : Sim T F ι st H) (hD : T.G D = none) (h : H D = some o) (ne : ∀ k, k < st.length → ι k ≠ D) (hc : CellR T F (fun k => if k = st.length then D else ι k) (st.length + 1) H D c) :
    Sim T F (fun k => if k = st.length then D else ι k) (st ++ [c]) H ∧ Next F ι st.length F (fun k => if k = st.length then D else ι k) := by
  have N : Next F ι st.length F (fun k => if k = st.length then D else ι k) := ⟨fun _ _ h => h, fun k hk => if_neg (Nat.ne_of_lt hk)⟩
  refine ⟨⟨S.sub, fun k c' e => ?_, fun j k hj hk e => ?_, S.gd, fun a u e => ⟨(S.gf a u e).1, fun k hk => ?_⟩, S.tb, S.nt⟩, N⟩
  · rw [List.length_append, List.length_singleton]
    by_cases hk : k = st.length
    · subst hk
      rw [List.getElem?_append_right (Nat.le_refl _)] at e
      simp at e
      subst e
      simpa using hc
    · rw [if_neg hk]
      have lt : k < st.length := by
        have : k < (st ++ [c]).length := by
          rcases Nat.lt_or_ge k (st ++ [c]).length with h | h
          · exact h
          · rw [List.getElem?_eq_none h] at e; cases e
        rw [List.length_append, List.length_singleton] at this
        omega
      rw [List.getElem?_append_left lt] at e
      exact (S.cel k c' e).el N (Nat.le_succ _) (fun o h => h) (fun h => h)
  · rw [List.length_append, List.length_singleton] at hj hk
    have e : (if j = st.length then D else ι j) = (if k = st.length then D else ι k) := e
    by_cases h1 : j = st.length
    · by_cases h2 : k = st.length
      · omega
      · rw [if_pos h1, if_neg h2] at e
        exact absurd e.symm (ne k (by omega))
    · by_cases h2 : k = st.length
      · rw [if_neg h1, if_pos h2] at e
        exact absurd e (ne j (by omega))
      · rw [if_neg h1, if_neg h2] at e
        exact S.inj j k (by omega) (by omega) e
  · rw [List.length_append, List.length_singleton] at hk
    show (if k = st.length then D else ι k) ≠ a
    by_cases h1 : k = st.length
    · rw [if_pos h1]
      exact fun z => by rw [← z, hD] at e; cases e
    · rw [if_neg h1]
      exact (S.gf a u e).2 k (by omega)
/-- the list at D, that was left alone, is what alloc gives -/
theorem alloc_at {W : L2.WX} {σ : L2.St} {f : Nat} {vs : List Val} {xs : List V} {Q : VK} (S : Sim (T.wG (upd T.G D (.lst xs))) F ι st H) (hD : T.G D = none) (r : VRelL T F ι st.length vs xs) (p : PostG (RV T) T W σ F ι st.length (alloc f vs st) Q) : Q (.ref D) H := by
  obtain ⟨S1, h, f0, ne, nt⟩ := S.melt hD
  unfold alloc at p
  split at p
  · obtain ⟨S2, N⟩ := S1.adoptF hD h f0 ne nt
    exact p _ ι H _ N (Nat.le_refl _) S2 (mkL_rel upd_same (r.up N (Nat.le_refl _)))
  · split at p
    · rename_i ds e
      obtain ⟨S2, N⟩ := S1.adoptC (c := .pl ds) hD h ne ⟨f0, xs, h, r.pure e⟩
      refine p F _ _ (.ref D) N (by simp) S2 ?_
      have := VRel.r (T := T) (F := F) (ι := fun k => if k = st.length then D else ι k) (n := (st ++ [Cell.pl ds]).length) (k := st.length) (by simp)
      simpa using this
    · exact p.elim
  · obtain ⟨S2, N⟩ := S1.adoptC (c := .ml vs) hD h ne ⟨f0, xs, h, r.up ⟨fun _ _ h => h, fun k hk => if_neg (Nat.ne_of_lt hk)⟩ (Nat.le_succ _)⟩
    refine p F _ _ (.ref D) N (by simp) S2 ?_
    have := VRel.r (T := T) (F := F) (ι := fun k => if k = st.length then D else ι k) (n := (st ++ [Cell.ml vs]).length) (k := st.length) (by simp)
    simpa using this
end
theorem lcGo_len {turn : Val → Store → R (Option Val)} : ∀ {vs acc : List Val} {st : Store} {ws : List Val} {st' : Store}, lcGo turn vs acc st = .ok ws st' → acc.length ≤ ws.length
  | [], acc, st, ws, st', e => by cases e; exact Nat.le_refl _
  | v :: vs, acc, st, ws, st', e => by
    unfold lcGo at e
    split at e
    · have := lcGo_len e
      simp at this
      omega
    · exact lcGo_len e
    · cases e
    · cases e
theorem lcGo_er {turn : Val → Store → R (Option Val)} : ∀ {vs acc : List Val} {st : Store} {c : Nat} {fs : List (Str × PyData)} {st' : Store}, lcGo turn vs acc st ≠ .er c fs st'
  | [], acc, st, c, fs, st', e => by cases e
  | v :: vs, acc, st, c, fs, st', e => by
    unfold lcGo at e
    split at e
    · exact lcGo_er e
    · exact lcGo_er e
    · cases e
    · cases e
/-- tests of a comprehension -/
abbrev DTs (X : Cx) (T : Tb) (W : L2.WX) (ifs : List Expr) (f : Env → Store → R Bool) : Prop := PTs X ifs (tEvG RE T W f)
theorem pts_imp {X : Cx} {e : List Expr} {t t' : TT} (h : PTs X e t) (i : ∀ σ H Q, t' σ H Q → t σ H Q) : PTs X e t' := ⟨fun pins s σ H Q I q => h.run pins s σ H Q I (i _ _ _ q)⟩
theorem dts_nil {X : Cx} {T : Tb} {W : L2.WX} {Kt : Kit} : DTs X T W [] (evalT Kt .nil) := pts_imp pts_nil fun σ H Q ⟨F, ι, env, st, S, E, p⟩ => by
  rw [evalT] at p
  exact p.now (Next.refl _ _ _) (Nat.le_refl _) S rfl
theorem dts_one {X : Cx} {T : Tb} {W : L2.WX} {Kt : Kit} {e : Expr} {a b : Ex} (h : DT X T W e (evalT Kt (.cons a b))) : DTs X T W [e] (evalT Kt (.cons a b)) := pts_one h
abbrev W0 : L2.WX := fun _ _ _ _ => False
section
variable {X : Cx} {T : Tb} {W : L2.WX} {Kt : Kit} {elt tg iter : Expr} {ifs : List Expr} {scope : Scope} {own : List (Str × Nat)} {pos : Pos} {f : Nat} {is : List Nat} {it c e : Ex}
theorem lc_ev {σ : L2.St} {H : Hp} {Q : VK} (hown : ∀ i ∈ own.map (·.2), i ∈ is) (hown2 : ∀ i ∈ is, i ∈ own.map (·.2)) (p : tEvG (RV T) T W (evalX Kt (.lc f is it c e)) σ H Q) :
    tLc (tEvG (RI T) T W (evalI Kt it)) (fun x σ H K => ∃ G, tG (T.wG G) is x σ H K) (fun σ H K => ∃ G, tEvG RE (T.wG G) W0 (evalT Kt c) σ H K) (fun σ H K => ∃ G, tEvG (RV (T.wG G)) (T.wG G) W0 (evalX Kt e) σ H K) (own.map (·.2)) σ H Q := by
  obtain ⟨F, ι, env, st, S, E, p⟩ := p
  rw [evalX] at p
  refine ev_go (f := evalI Kt it) S E ((PostG.bind (RA := RI T) p).imp fun J H1 ⟨F1, ι1, items, st1, M, p1⟩ D hD => ?_)
  have E1 := E.up M.nx M.le
  have wk := M.rel
  have gD : T.G D = none := by
    cases z : T.G D with
    | none => rfl
    | some o => have := M.sim.gd D o z; rw [hD] at this; cases this
  generalize hturn : (fun (v : Val) (s : Store) => (match bindV s is v env with
      | some env1 => (evalT Kt c env1 s).bind fun b s1 => match b with
        | true => (evalX Kt e env1 s1).bind fun x s2 => .ok (some x) s2
        | false => .ok none s1
      | none => .no : R (Option Val))) = turn at p1
  let Pv : Nat → Hp → Prop := fun i H => ∃ F ι st acc xs, Next F1 ι1 st1.length F ι ∧ st1.length ≤ st.length ∧ Sim (T.wG (upd T.G D (.lst xs))) F ι st H ∧ VRelL T F ι st.length acc xs ∧
    PostG (RV T) T W σ F ι st.length ((lcGo turn (items.drop i) acc st).bind fun vs st2 => if vs.length ≤ SZ then alloc f vs st2 else .no) Q
  refine ⟨fun i m H => m = items.length - i ∧ i ≤ items.length ∧ Pv i H, ⟨items.length, by simp, Nat.zero_le _, F1, ι1, st1, [], [], Next.refl _ _ _, Nat.le_refl _, M.sim.guard hD, .nil, p1⟩, ?_⟩
  rintro i m H2 ⟨rfl, hi, F2, ι2, st2, acc, xs, N2, l2, S2, r2, p2⟩
  by_cases hlt : i < items.length
  · have hv : items[i]? = some items[i] := by simp [hlt]
    have hdrop : items.drop i = items[i] :: items.drop (i + 1) := List.drop_eq_getElem_cons hlt
    rw [hdrop] at p2
    generalize items[i] = v at hv p2
    refine .inr ⟨wk.goes _ _ _ _ _ i v (SameT.wG T _) N2 l2 S2 hv, Pv (i + 1), fun H' p' => ⟨items.length - (i + 1), by omega, rfl, hlt, p'⟩, fun x H' y => ?_⟩
    obtain ⟨F3, fx, rx⟩ := wk.yields _ _ _ _ _ i v x H' (SameT.wG T _) N2 l2 S2 hv y
    have S3 := S2.fx fx
    have N3 : Next F2 ι2 st2.length F3 ι2 := fx.next
    have r3 := r2.up N3 (Nat.le_refl _)
    have p3 := p2.up N3 (Nat.le_refl _) (fun _ _ _ _ => trivial)
    unfold lcGo at p3
    have ht : turn v st2 = (match bindV st2 is v env with
      | some env1 => (evalT Kt c env1 st2).bind fun b s1 => match b with
        | true => (evalX Kt e env1 s1).bind fun x s2 => .ok (some x) s2
        | false => .ok none s1
      | none => .no) := by rw [← hturn]
    rw [ht] at p3
    cases hb : bindV st2 is v env with
    | none => rw [hb] at p3; exact p3.elim
    | some env1 =>
      rw [hb] at p3
      simp only at p3
      have NX : Next F1 ι1 st1.length F3 ι2 := N2.trans N3 l2
      have EX := (E1.up NX l2).to (SameT.wG T (upd T.G D (.lst xs)))
      refine ⟨upd T.G D (.lst xs), F3, ι2, st2, v, env, env1, S3, rx.to (SameT.wG T _), EX.wipe hown, hb, fun σ2 e2 hw => ⟨(hw _ hown2).trans ?_, ?_⟩⟩
      · have : ∀ vs : List Nat, wipe (wipe σ vs) vs = wipe σ vs := fun vs => by
          apply List.ext_getElem?
          intro j
          by_cases m : j ∈ vs
          · by_cases hl : j < σ.length
            · rw [wipe_at m (by rw [wipe_length]; exact hl), wipe_at m hl]
            · rw [List.getElem?_eq_none (by rw [wipe_length, wipe_length]; simpa using hl), List.getElem?_eq_none (by rw [wipe_length]; simpa using hl)]
          · rw [wipe_none m]
        exact this _
      · refine ⟨upd T.G D (.lst xs), F3, ι2, env1, st2, S3, e2, ?_⟩
        cases ht2 : evalT Kt c env1 st2 with
        | no => rw [ht2] at p3; exact p3.elim
        | er _ _ _ => rw [ht2] at p3; exact p3.elim
        | ok b s1 =>
          rw [ht2] at p3
          simp only [R.bind_ok] at p3
          intro F4 ι4 H4 b' N4 l4 S4 rb
          have rb : b = b' := rb
          subst rb
          cases b with
          | false =>
            simp only [Bool.false_eq_true, if_false]
            exact ⟨F4, ι4, s1, acc, xs, NX.trans N4 l2, Nat.le_trans l2 l4, S4, r3.up N4 l4, p3.up N4 l4 fun _ _ _ _ => trivial⟩
          | true =>
            simp only [if_true]
            refine ⟨upd T.G D (.lst xs), F4, ι4, env1, s1, S4, e2.up N4 l4, ?_⟩
            cases he : evalX Kt e env1 s1 with
            | no => simp only [he] at p3; exact p3.elim
            | er _ _ _ => simp only [he] at p3; exact p3.elim
            | ok z s2 =>
              simp only [he, R.bind_ok] at p3
              intro F5 ι5 H5 y N5 l5 S5 ry
              have hDD : H5 D = some (.lst xs) := S5.gd D _ upd_same
              refine ⟨xs, hDD, ?_, F5, ι5, s2, acc ++ [z], xs ++ [y], (NX.trans N4 l2).trans N5 (Nat.le_trans l2 l4), Nat.le_trans (Nat.le_trans l2 l4) l5, S5.reguard (fun _ z => nomatch z), ?_, ?_⟩
              · cases hg : lcGo turn (items.drop (i + 1)) (acc ++ [z]) s2 with
                | no => rw [hg] at p3; exact p3.elim
                | er _ _ _ => exact absurd hg lcGo_er
                | ok ws s3 =>
                  rw [hg] at p3
                  simp only [R.bind_ok] at p3
                  split at p3
                  · rename_i hz
                    have := lcGo_len hg
                    rw [List.length_append, List.length_singleton] at this
                    rw [← r2.length, ← SZ_eq]
                    omega
                  · exact p3.elim
              · exact ((r3.up N4 l4).up N5 l5).append (.cons (ry.to (SameT.wG T _).symm) .nil)
              · exact p3.up (N4.trans N5 l4) (Nat.le_trans l4 l5) fun _ _ _ _ => trivial
  · have e : i = items.length := by omega
    subst e
    refine .inl ⟨wk.stops _ _ _ _ _ (SameT.wG T _) N2 l2 S2, ?_⟩
    rw [List.drop_length] at p2
    simp only [lcGo, R.bind_ok] at p2
    split at p2
    · exact alloc_at S2 gD r2 p2
    · exact p2.elim
theorem de_lc (hc : X.calm = true) (hN : X.N.Nodup) (hi : DI X T W tg iter (evalI Kt it)) (ok : BlkOk X.N X.env.scope scope own) (hown : ∀ i ∈ own.map (·.2), i ∈ is) (hown2 : ∀ i ∈ is, i ∈ own.map (·.2))
    (hg : ∀ (G : Hp) (s : Shared) (H : Hp) (C : Addr) (cl : List (Str × Addr)) (fp : List Addr), DG (X.blk s H scope (compEnvC scope cl C X.env) fp) (T.wG G) tg is) (ht : ∀ (G : Hp) (s : Shared) (H : Hp) (C : Addr) (cl : List (Str × Addr)) (fp : List Addr), DTs (X.blk s H scope (compEnvC scope cl C X.env) fp) (T.wG G) W0 ifs (evalT Kt c))
    (he : ∀ (G : Hp) (s : Shared) (H : Hp) (C : Addr) (cl : List (Str × Addr)) (fp : List Addr), DE (X.blk s H scope (compEnvC scope cl C X.env) fp) (T.wG G) W0 elt (evalX Kt e)) (hs : ∀ x, foldedSetIterable iter X.env x = pure x) :
    DE X T W (.ListComp elt [⟨tg, iter, ifs, 0⟩] scope pos) (evalX Kt (.lc f is it c e)) :=
  pe_imp (pe_lc (pos := pos) hc hN hi ok (fun s H C cl fp => ⟨fun pins s σ H v u Q I r ⟨G, q⟩ => (hg G _ _ C cl fp).run pins s σ H v u Q I r q⟩) (fun s H C cl fp => ⟨fun pins s σ H Q I ⟨G, q⟩ => (ht G _ _ C cl fp).run pins s σ H Q I q⟩) (fun s H C cl fp => ⟨fun pins s σ H Q I ⟨G, q⟩ => (he G _ _ C cl fp).run pins s σ H Q I q⟩) hs) fun σ H Q q => lc_ev hown hown2 q
end
end Vm
end

section
/-! V20: statements. -/
namespace Vm
open PySem L2 PySem.Spec PyProof.Rows

def PostS (T : Tb) (W : L2.WX) (F : Hp) (ι : Nat → Addr) (n : Nat) (r : Fl) (D : Ends) : Prop :=
  match r with
  | .nx env st' => ∀ F' ι' H' σ, Next F ι n F' ι' → n ≤ st'.length → Sim T F' ι' st' H' → EnvR T F' ι' st'.length σ env → D.nx σ H'
  | .rt v st' => ∀ F' ι' H' x, Next F ι n F' ι' → n ≤ st'.length → Sim T F' ι' st' H' → VRel T F' ι' st'.length v x → D.rt x H'
  | .bk env st' => ∀ F' ι' H' σ, Next F ι n F' ι' → n ≤ st'.length → Sim T F' ι' st' H' → EnvR T F' ι' st'.length σ env → D.bk σ H'
  | .ct env st' => ∀ F' ι' H' σ, Next F ι n F' ι' → n ≤ st'.length → Sim T F' ι' st' H' → EnvR T F' ι' st'.length σ env → D.ct σ H'
  | .er c fs env st' => ∀ F' ι' H' σ cls d, Next F ι n F' ι' → n ≤ st'.length → Sim T F' ι' st' H' → EnvR T F' ι' st'.length σ env → ExcR T F' c fs cls d → W cls d σ H'
  | .no => False
section
variable {T : Tb} {W : L2.WX} {F F' H : Hp} {ι ι' : Nat → Addr} {n n' : Nat} {r : Fl} {D : Ends}
theorem PostS.up (N : Next F ι n F' ι') (h : n ≤ n') (p : PostS T W F ι n r D) : PostS T W F' ι' n' r D := by
  cases r with
  | nx v s => exact fun F2 ι2 H2 x N2 h2 S R => p F2 ι2 H2 x (N.trans N2 h) (Nat.le_trans h h2) S R
  | rt v s => exact fun F2 ι2 H2 x N2 h2 S R => p F2 ι2 H2 x (N.trans N2 h) (Nat.le_trans h h2) S R
  | bk v s => exact fun F2 ι2 H2 x N2 h2 S R => p F2 ι2 H2 x (N.trans N2 h) (Nat.le_trans h h2) S R
  | ct v s => exact fun F2 ι2 H2 x N2 h2 S R => p F2 ι2 H2 x (N.trans N2 h) (Nat.le_trans h h2) S R
  | er c fs v s => exact fun F2 ι2 H2 x cls d N2 h2 S R => p F2 ι2 H2 x cls d (N.trans N2 h) (Nat.le_trans h h2) S R
  | no => exact p
def tS (T : Tb) (W : L2.WX) (f : Env → Store → Fl) : TS := fun D σ H => ∃ F ι env st, Sim T F ι st H ∧ EnvR T F ι st.length σ env ∧ PostS T W F ι st.length (f env st) D
abbrev DS (X : Cx) (T : Tb) (W : L2.WX) (s : Stmt) (f : Env → Store → Fl) : Prop := PS X s (tS T W f)
abbrev DSs (X : Cx) (T : Tb) (W : L2.WX) (s : List Stmt) (f : Env → Store → Fl) : Prop := PSs X s (tS T W f)
theorem fl_bind {α β : Type} {RA : Hp → (Nat → Addr) → Nat → α → β → Prop} {σ : L2.St} {env : Env} {r : R α} {g : α → Store → Fl} (E : EnvR T F ι n σ env) (p : PostS T W F ι n (r.fl env g) D) :
    PostG RA T W σ F ι n r (fun x H1 => ∃ F1 ι1 v st1, Mid RA T F ι n H1 F1 ι1 v x st1 ∧ EnvR T F1 ι1 st1.length σ env ∧ PostS T W F1 ι1 st1.length (g v st1) D) := by
  cases r with
  | ok v s => exact fun F2 ι2 H2 x N2 h2 S R => ⟨F2, ι2, v, s, ⟨N2, h2, S, R⟩, E.up N2 h2, PostS.up N2 h2 p⟩
  | er c fs s => exact fun F2 ι2 H2 cls d N2 h2 S R => p F2 ι2 H2 σ cls d N2 h2 S (E.up N2 h2) R
  | no => exact p
end
section
variable {X : Cx} {T : Tb} {W : L2.WX} {Kt : Kit} {fl : Nat → List Str} {e tg c : Expr} {s : Stmt} {ss a b : List Stmt} {pos p2 : Pos}
theorem ds_eq {f g : Env → Store → Fl} (h : DS X T W s f) (q : ∀ env st, g env st = f env st) : DS X T W s g := ps_imp h fun D σ H ⟨F, ι, env, st, S, E, p⟩ => ⟨F, ι, env, st, S, E, by rw [← q]; exact p⟩
theorem ds_skip : DSs X T W [] (execS Kt fl .skip) := pss_imp pss_nil fun D σ H ⟨F, ι, env, st, S, E, p⟩ => by
  rw [execS] at p
  exact p F ι H σ (Next.refl _ _ _) (Nat.le_refl _) S E
theorem ds_pass : DS X T W (.Pass pos) (execS Kt fl .skip) := ps_imp ps_pass fun D σ H ⟨F, ι, env, st, S, E, p⟩ => by
  rw [execS] at p
  exact p F ι H σ (Next.refl _ _ _) (Nat.le_refl _) S E
theorem ds_brk : DS X T W (.Break pos) (execS Kt fl .brk) := ps_imp ps_break fun D σ H ⟨F, ι, env, st, S, E, p⟩ => by
  rw [execS] at p
  exact p F ι H σ (Next.refl _ _ _) (Nat.le_refl _) S E
theorem ds_cnt : DS X T W (.Continue pos) (execS Kt fl .cnt) := ps_imp ps_continue fun D σ H ⟨F, ι, env, st, S, E, p⟩ => by
  rw [execS] at p
  exact p F ι H σ (Next.refl _ _ _) (Nat.le_refl _) S E
theorem ds_bad : DS X T W s (execS Kt fl .bad) := ⟨fun pins s' σ H D I ⟨F, ι, env, st, S, E, p⟩ => by
  rw [execS] at p
  exact p.elim⟩
theorem ds_one {m : Sm} (h : DS X T W s (execS Kt fl m)) : DSs X T W [s] (execS Kt fl m) := pss_one h
theorem ds_cons {m m' : Sm} (h1 : DS X T W s (execS Kt fl m)) (h2 : DSs X T W ss (execS Kt fl m')) : DSs X T W (s :: ss) (execS Kt fl (.seq m m')) := pss_imp (pss_cons h1 h2) fun D σ H ⟨F, ι, env, st, S, E, p⟩ => by
  rw [execS] at p
  refine ⟨F, ι, env, st, S, E, ?_⟩
  revert p
  cases execS Kt fl m env st with
  | nx e1 s1 => exact fun p F' ι' H' σ' N hn S' E' => ⟨F', ι', e1, s1, S', E', p.up N hn⟩
  | rt v s => exact fun p => p
  | bk v s => exact fun p => p
  | ct v s => exact fun p => p
  | er c fs v s => exact fun p => p
  | no => exact fun p => p
theorem ds_ret {x : Ex} (h : DE X T W e (evalX Kt x)) : DS X T W (.Return (some e) pos) (execS Kt fl (.ret x)) := ps_imp (ps_ret h) fun D σ H ⟨F, ι, env, st, S, E, p⟩ => by
  rw [execS] at p
  refine ev_go S E ((fl_bind (RA := RV T) E p).imp fun y H1 ⟨F1, ι1, v, st1, M, E1, q⟩ => ?_)
  exact q F1 ι1 H1 y (Next.refl _ _ _) (Nat.le_refl _) M.sim M.rel
theorem ds_retN : DS X T W (.Return none pos) (execS Kt fl (.ret (.con .none))) := ps_imp ps_retN fun D σ H ⟨F, ι, env, st, S, E, p⟩ => by
  rw [execS, evalX] at p
  exact p F ι H .non (Next.refl _ _ _) (Nat.le_refl _) S (.p .non)
theorem ds_ex {x : Ex} (h : DE X T W e (evalX Kt x)) (hs : swapsWith e none pos.line X.env = pure false) : DS X T W (.Expr e pos) (execS Kt fl (.ex x)) := ps_imp (ps_expr h hs) fun D σ H ⟨F, ι, env, st, S, E, p⟩ => by
  rw [execS] at p
  refine ev_go (f := evalX Kt x) S E ((fl_bind (RA := RV T) E p).imp fun y H1 ⟨F1, ι1, v, st1, M, E1, q⟩ => ?_)
  exact q F1 ι1 H1 σ (Next.refl _ _ _) (Nat.le_refl _) M.sim E1
theorem ds_if {x : Ex} {m m' : Sm} (hc : DT X T W c (evalT Kt x)) (h1 : DSs X T W a (execS Kt fl m)) (h2 : DSs X T W b (execS Kt fl m')) : DS X T W (.If c a b pos) (execS Kt fl (.ife x m m')) := ps_imp (ps_if hc h1 h2) fun D σ H ⟨F, ι, env, st, S, E, p⟩ => by
  rw [execS] at p
  refine ev_go (f := evalT Kt x) S E ((fl_bind (RA := RE) E p).imp fun k H1 ⟨F1, ι1, v, st1, M, E1, q⟩ => ?_)
  have hk : v = k := M.rel
  subst hk
  cases v with
  | true => exact iteT ⟨F1, ι1, env, st1, M.sim, E1, q⟩
  | false => exact iteF ⟨F1, ι1, env, st1, M.sim, E1, q⟩
theorem ds_asgN {i : Nat} {x : Ex} (h : DE X T W e (evalX Kt x)) (hg : PG X tg (gName i)) (hs : swapsWithSole [tg] e pos.line X.env = pure false) (hw : swappedStores [tg] e X.env = pure none) (h1 : (assignEach [tg] X.env).map (·.2) = [assign tg X.env]) : DS X T W (.Assign [tg] e pos) (execS Kt fl (.asg (.n i) x)) :=
  ps_imp (ps_asg h hg hs hw h1) fun D σ H ⟨F, ι, env, st, S, E, p⟩ => by
    rw [execS] at p
    refine ev_go (f := evalX Kt x) S E ((fl_bind (RA := RV T) E p).imp fun y H1 ⟨F1, ι1, v, st1, M, E1, q⟩ => ?_)
    exact q F1 ι1 H1 _ (Next.refl _ _ _) (Nat.le_refl _) M.sim ((E1.w (rem := [i])).step M.rel).r
theorem ds_asgT {is : List Nat} {x : Ex} (h : DE X T W e (evalX Kt x)) (hg : DG X T tg is) (hs : swapsWithSole [tg] e pos.line X.env = pure false) (hw : swappedStores [tg] e X.env = pure none) (h1 : (assignEach [tg] X.env).map (·.2) = [assign tg X.env]) : DS X T W (.Assign [tg] e pos) (execS Kt fl (.asg (.t is) x)) :=
  ps_imp (ps_asg h hg hs hw h1) fun D σ H ⟨F, ι, env, st, S, E, p⟩ => by
    rw [execS] at p
    refine ev_go (f := evalX Kt x) S E ((fl_bind (RA := RV T) E p).imp fun y H1 ⟨F1, ι1, v, st1, M, E1, q⟩ => ?_)
    cases hb : bindV st1 is v env with
    | none => simp only [hb] at q; exact q.elim
    | some env1 =>
      simp only [hb] at q
      exact ⟨F1, ι1, st1, v, env, env1, M.sim, M.rel, E1.w, hb, fun σ2 e2 _ => q F1 ι1 H1 σ2 (Next.refl _ _ _) (Nat.le_refl _) M.sim e2⟩
end
end Vm
end

section
/-! V21: loops, comprehensions that are named, stores. -/
namespace Vm
open PySem L2 PySem.Spec PyProof.Rows

section
variable {X : Cx} {T : Tb} {W : L2.WX} {Kt : Kit} {fl : Nat → List Str} {e tg c iter : Expr} {s : Stmt} {ss a b body : List Stmt} {pos p2 : Pos}
theorem ds_while {x : Ex} {m : Sm} (hp : PassesOwn (model X.prog X.w) X.A X.env X.xe) (hc : DT X T W c (evalT Kt x)) (hb : DSs X T W body (execS Kt fl m)) : DS X T W (.While c body [] pos) (execS Kt fl (.whl x m)) := ps_imp (ps_while hp hc hb) fun D σ H ⟨F, ι, env, st, S, E, p⟩ => by
  rw [execS] at p
  refine ⟨fun k σ H => ∃ F ι env st, Sim T F ι st H ∧ EnvR T F ι st.length σ env ∧ PostS T W F ι st.length (whGo (evalT Kt x) (execS Kt fl m) k env st) D, ⟨Kt.wh, F, ι, env, st, S, E, p⟩, ?_⟩
  rintro k σ H ⟨F, ι, env, st, S, E, p⟩
  cases k with
  | zero => exact p.elim
  | succ k =>
    rw [whGo] at p
    refine ev_go (f := evalT Kt x) S E ((fl_bind (RA := RE) E p).imp fun v' H1 ⟨F1, ι1, v, st1, M, E1, q⟩ => ?_)
    have hk : v = v' := M.rel
    subst hk
    cases v with
    | false =>
      refine iteF ?_
      exact q F1 ι1 H1 σ (Next.refl _ _ _) (Nat.le_refl _) M.sim E1
    | true =>
      refine iteT ⟨fun σ H => ∃ F ι env st, Sim T F ι st H ∧ EnvR T F ι st.length σ env ∧ PostS T W F ι st.length (whGo (evalT Kt x) (execS Kt fl m) k env st) D, fun σ' H' w => ⟨k, Nat.lt_succ_self _, w⟩, F1, ι1, env, st1, M.sim, E1, ?_⟩
      simp only at q
      revert q
      cases execS Kt fl m env st1 with
      | nx e1 s1 => exact fun q F' ι' H' σ' N hn S' E' => ⟨F', ι', e1, s1, S', E', q.up N hn⟩
      | ct e1 s1 => exact fun q F' ι' H' σ' N hn S' E' => ⟨F', ι', e1, s1, S', E', q.up N hn⟩
      | bk e1 s1 => exact fun q => q
      | rt v s => exact fun q => q
      | er c fs v s => exact fun q => q
      | no => exact fun q => q
theorem ds_for {is : List Nat} {it : Ex} {m : Sm} (hp : PassesOwn (model X.prog X.w) X.A X.env X.xe) (hc : X.calm = true) (hi : DI X T W tg iter (evalI Kt it)) (hg : DG X T tg is) (hb : DSs X T W body (execS Kt fl m))
    (hs : ∀ x, foldedSetIterable iter X.env x = pure x) : DS X T W (.For tg iter body [] pos) (execS Kt fl (.for_ is it m)) := ps_imp (ps_for hp hc hi hg hb hs) fun D σ H ⟨F, ι, env, st, S, E, p⟩ => by
  rw [execS] at p
  refine ev_go (f := evalI Kt it) S E ((fl_bind (RA := RI T) E p).imp fun J H1 ⟨F1, ι1, items, st1, M, E1, q⟩ => ?_)
  have wk := M.rel
  generalize hturn : (fun (v : Val) (e : Env) (s : Store) => (match bindV s is v e with
    | some e1 => execS Kt fl m e1 s
    | none => .no : Fl)) = turn at q
  let Pv : Nat → L2.St → Hp → Prop := fun i σ H => ∃ F ι env st, Next F1 ι1 st1.length F ι ∧ st1.length ≤ st.length ∧ Sim T F ι st H ∧ EnvR T F ι st.length σ env ∧ PostS T W F ι st.length (forGo turn (items.drop i) env st) D
  refine ⟨fun i m σ H => m = items.length - i ∧ i ≤ items.length ∧ Pv i σ H, ⟨items.length, by simp, Nat.zero_le _, F1, ι1, env, st1, Next.refl _ _ _, Nat.le_refl _, M.sim, E1, q⟩, ?_⟩
  rintro i m' σ2 H2 ⟨rfl, hi, F2, ι2, e2, st2, N2, l2, S2, E2, p2⟩
  by_cases hlt : i < items.length
  · have hv : items[i]? = some items[i] := by simp [hlt]
    have hdrop : items.drop i = items[i] :: items.drop (i + 1) := List.drop_eq_getElem_cons hlt
    rw [hdrop] at p2
    generalize items[i] = v at hv p2
    refine .inr ⟨wk.goes _ _ _ _ _ i v (SameT.refl T) N2 l2 S2 hv, Pv (i + 1), fun σ' H' p' => ⟨items.length - (i + 1), by omega, rfl, hlt, p'⟩, fun x H' y => ?_⟩
    obtain ⟨F3, fx, rx⟩ := wk.yields _ _ _ _ _ i v x H' (SameT.refl T) N2 l2 S2 hv y
    have S3 := S2.fx fx
    have N3 : Next F2 ι2 st2.length F3 ι2 := fx.next
    have p3 := p2.up N3 (Nat.le_refl _)
    have NX : Next F1 ι1 st1.length F3 ι2 := N2.trans N3 l2
    rw [forGo] at p3
    have ht : turn v e2 st2 = (match bindV st2 is v e2 with
      | some e1 => execS Kt fl m e1 st2
      | none => .no) := by rw [← hturn]
    rw [ht] at p3
    cases hbv : bindV st2 is v e2 with
    | none => rw [hbv] at p3; exact p3.elim
    | some env1 =>
      rw [hbv] at p3
      simp only at p3
      refine ⟨F3, ι2, st2, v, e2, env1, S3, rx, (E2.up N3 (Nat.le_refl _)).w, hbv, fun σ4 E4 _ => ⟨F3, ι2, env1, st2, S3, E4, ?_⟩⟩
      revert p3
      cases execS Kt fl m env1 st2 with
      | nx e1 s1 => exact fun q F' ι' H' σ' N hn S' E' => ⟨F', ι', e1, s1, NX.trans N l2, Nat.le_trans l2 hn, S', E', q.up N hn⟩
      | ct e1 s1 => exact fun q F' ι' H' σ' N hn S' E' => ⟨F', ι', e1, s1, NX.trans N l2, Nat.le_trans l2 hn, S', E', q.up N hn⟩
      | bk e1 s1 => exact fun q => q
      | rt v s => exact fun q => q
      | er c fs v s => exact fun q => q
      | no => exact fun q => q
  · have e : i = items.length := by omega
    subst e
    rw [List.drop_length, forGo] at p2
    exact .inl ⟨wk.stops _ _ _ _ _ (SameT.refl T) N2 l2 S2, p2 F2 ι2 H2 σ2 (Next.refl _ _ _) (Nat.le_refl _) S2 E2⟩
/-- name = [..] on one line -/
theorem ds_setLc {i f : Nat} {y : Str} {py spos : Pos} {elt : Expr} {ifs : List Expr} {scope : Scope} {own : List (Str × Nat)} {is : List Nat} {it ec x : Ex} (hc : X.calm = true) (hN : X.N.Nodup) (hy : X.N[i]? = some y) (hyl : X.env.scope.names.lookup y = some .local)
    (hsw : swapsWith (.ListComp elt [⟨tg, iter, ifs, 0⟩] scope pos) (some (.Name y py)) spos.line X.env = pure true) (hi : DI X T W tg iter (evalI Kt it)) (ok : BlkOk X.N X.env.scope scope own) (hown : ∀ i ∈ own.map (·.2), i ∈ is) (hown2 : ∀ i ∈ is, i ∈ own.map (·.2))
    (hg : ∀ (G : Hp) (s : Shared) (H : Hp) (C : Addr) (cl : List (Str × Addr)) (fp : List Addr), DG (X.blk s H scope (compEnvC scope cl C X.env) fp) (T.wG G) tg is) (ht : ∀ (G : Hp) (s : Shared) (H : Hp) (C : Addr) (cl : List (Str × Addr)) (fp : List Addr), DTs (X.blk s H scope (compEnvC scope cl C X.env) fp) (T.wG G) W0 ifs (evalT Kt ec))
    (he : ∀ (G : Hp) (s : Shared) (H : Hp) (C : Addr) (cl : List (Str × Addr)) (fp : List Addr), DE (X.blk s H scope (compEnvC scope cl C X.env) fp) (T.wG G) W0 elt (evalX Kt x)) (hs : ∀ x, foldedSetIterable iter X.env x = pure x) :
    DS X T W (.Assign [.Name y py] (.ListComp elt [⟨tg, iter, ifs, 0⟩] scope pos) spos) (execS Kt fl (.asg (.n i) (.lc f is it ec x))) :=
  ps_imp (ps_setLc (pos := pos) (g := fun x σ H K => ∃ G, tG (T.wG G) is x σ H K) (tt := fun σ H K => ∃ G, tEvG RE (T.wG G) W0 (evalT Kt ec) σ H K) (te := fun σ H K => ∃ G, tEvG (RV (T.wG G)) (T.wG G) W0 (evalX Kt x) σ H K) hc hN hy hyl hsw hi ok (fun s H C cl fp => ⟨fun pins s σ H v u Q I r ⟨G, q⟩ => (hg G _ _ C cl fp).run pins s σ H v u Q I r q⟩) (fun s H C cl fp => ⟨fun pins s σ H Q I ⟨G, q⟩ => (ht G _ _ C cl fp).run pins s σ H Q I q⟩) (fun s H C cl fp => ⟨fun pins s σ H Q I ⟨G, q⟩ => (he G _ _ C cl fp).run pins s σ H Q I q⟩) hs) fun D σ H ⟨F, ι, env, st, S, E, p⟩ => by
    rw [execS] at p
    refine lc_ev hown hown2 (ev_go S E ((fl_bind (RA := RV T) E p).imp fun z H1 ⟨F1, ι1, v, st1, M, E1, q⟩ => ?_))
    exact q F1 ι1 H1 _ (Next.refl _ _ _) (Nat.le_refl _) M.sim ((E1.w (rem := [i])).step M.rel).r
end
end Vm
end

section
/-! V22: stores at places and keys. -/
namespace Vm
open PySem L2 PySem.Spec PyProof.Rows

section
variable {X : Cx} {pins : List (Addr × Obj)} {σ : L2.St} {H : Hp} {s : Shared} {a : Addr}
/-- an empty dict is of either kind -/
theorem inv_toT (I : Inv X pins σ H s) (h : H a = some (.dK [])) : Inv X pins σ (upd H a (.dT [])) s := by
  obtain ⟨z, hd, vs, rel, o, es, ep, h1, h2, h3, h4⟩ := dk_of I.hok h
  cases rel
  refine d_write (h' := s.heap) (t' := s.toks) I (by rw [h]; exact True.intro) ⟨rfl, fun _ _ => rfl⟩ ⟨_, h1⟩ ⟨Nat.zero_le _, hd, [], .nil, o, es, ep, h1, h2, h3, ?_, List.nodup_nil⟩
  obtain ⟨_, hp, _⟩ := h4
  cases hes : es.toList with
  | nil => rfl
  | cons x r => rw [hes] at hp; cases hp
theorem inv_toK (I : Inv X pins σ H s) (h : H a = some (.dT [])) : Inv X pins σ (upd H a (.dK [])) s := by
  obtain ⟨z, hd, vs, rel, dd⟩ := dk_rdE I.hok (kvs := []) (.inr ⟨rfl, .inl h⟩)
  have he : ∃ q, s.heap.get? a = some q := let ⟨q, _, _, hq, _⟩ := dd; ⟨q, hq⟩
  exact d_write (h' := s.heap) (t' := s.toks) I (by rw [h]; exact True.intro) ⟨rfl, fun _ _ => rfl⟩ he (dk_new z hd rel dd)
end
def rPutD : TSet := fun o i v H Q => ∃ a, o = .ref a ∧ ((∃ H', DPut H a i v H' ∧ Q H') ∨ (H a = some (.dK []) ∧ ∃ (k : List Key) (b : Addr), i = .ref b ∧ H b = some (.tup (k.map kV)) ∧ Q (upd H a (.dT [(k, v)]))) ∨ (H a = some (.dT []) ∧ ∃ k : Key, i = kV k ∧ Q (upd H a (.dK [(k, v)]))))
theorem upd_updA {H : Hp} {a : Addr} {o o' : HO} : upd (upd H a o) a o' = upd H a o' := by
  funext b
  by_cases e : b = a
  · subst e; rw [upd_same, upd_same]
  · rw [upd_ne e, upd_ne e, upd_ne e]
theorem set_dictA {X : Cx} (hu : X.A.units + 1 < cLine) : PSet X rPutD := by
  intro pins s σ H o i v ov iv u Q I ro ri rv h
  obtain ⟨a, eo, h⟩ := h
  subst eo
  cases (show ov = Value.ref a from ro)
  have sz : (0 : Nat) < sizeLine := by rw [sizeLine_eq]; omega
  rcases h with ⟨H', g, q⟩ | ⟨ha, k, b, rfl, hb, q⟩ | ⟨ha, k, rfl, q⟩
  · exact d_setItem hu I g ri rv fun s' I' => ⟨H', I', q⟩
  · have ne : b ≠ a := fun e => by rw [e, ha] at hb; cases hb
    refine d_setItem (H' := upd H a (.dT [(k, v)])) hu (inv_toT I ha) (.inr ⟨[], k, b, upd_same, rfl, by rw [upd_ne ne]; exact hb, sz, by rw [upd_updA]; rfl⟩) ri rv fun s' I' => ⟨_, I', q⟩
  · refine d_setItem (H' := upd H a (.dK [(k, v)])) hu (inv_toK I ha) (.inl ⟨[], k, upd_same, rfl, sz, by rw [upd_updA]; rfl⟩) ri rv fun s' I' => ⟨_, I', q⟩
theorem DatT.mapP {K : PySem.W.Frag} {F : Hp} {k : List Key} {v : V} {d : PyData} (hd : Dat K F v d) : ∀ {kvs : List (List Key × V)} {es : List (PyData × PyData)}, DatT K F kvs es → DatT K F (kvs.map fun q => if q.1 = k then (q.1, v) else q) (es.map fun q => if keyEq q.1 (.tuple (k.map keyD)) = true then (q.1, d) else q)
  | _, _, .nil => .nil
  | _, _, .cons (k := kk) h1 h2 => by
    rw [List.map_cons, List.map_cons]
    have q : keyEq (.tuple (kk.map keyD)) (.tuple (k.map keyD)) = decide (kk = k) := keyD_eqvAll kk k
    simp only [q]
    by_cases z : kk = k
    · rw [if_pos z, if_pos (decide_eq_true z)]
      exact .cons hd (DatT.mapP hd h2)
    · rw [if_neg z, if_neg (by simpa using z)]
      exact .cons h1 (DatT.mapP hd h2)
theorem DatT.snoc {K : PySem.W.Frag} {F : Hp} {k : List Key} {v : V} {d : PyData} (hd : Dat K F v d) : ∀ {kvs : List (List Key × V)} {es : List (PyData × PyData)}, DatT K F kvs es → DatT K F (kvs ++ [(k, v)]) (es ++ [(.tuple (k.map keyD), d)])
  | _, _, .nil => .cons hd .nil
  | _, _, .cons h1 h2 => .cons h1 (DatT.snoc hd h2)
theorem DatT.anyEq {K : PySem.W.Frag} {F : Hp} (k : List Key) : ∀ {kvs : List (List Key × V)} {es : List (PyData × PyData)}, DatT K F kvs es → (kvs.any fun kv => decide (kv.1 = k)) = es.any fun q => keyEq q.1 (.tuple (k.map keyD))
  | _, _, .nil => rfl
  | _, _, .cons (k := kk) h1 h2 => by
    rw [List.any_cons, List.any_cons, DatT.anyEq k h2]
    have q : keyEq (.tuple (kk.map keyD)) (.tuple (k.map keyD)) = decide (kk = k) := keyD_eqvAll kk k
    simp only [q]
theorem DatT.put {K : PySem.W.Frag} {F : Hp} {k : List Key} {v : V} {d : PyData} (hd : Dat K F v d) {kvs : List (List Key × V)} {es : List (PyData × PyData)} (h : DatT K F kvs es) : DatT K F (L2.putK kvs k v) (Vm.putK es (.tuple (k.map keyD)) d) := by
  unfold L2.putK Vm.putK
  rw [h.anyEq k]
  split
  · exact h.mapP hd
  · exact h.snoc hd
end Vm
end

section
/-! V23: o[i] = v. -/
namespace Vm
open PySem L2 PySem.Spec PyProof.Rows

def rSetA : TSet := fun o i v H Q => rSetL o i v H Q ∨ rPutD o i v H Q
theorem set_any {X : Cx} (hu : X.A.units + 1 < cLine) : PSet X rSetA := fun pins s σ H o i v ov iv u Q I ro ri rv h => by
  rcases h with h | h
  · exact set_list pins s σ H o i v ov iv u Q I ro ri rv h
  · exact set_dictA hu pins s σ H o i v ov iv u Q I ro ri rv h
section
variable {T : Tb} {F H : Hp} {ι : Nat → Addr} {st : Store} {k : Nat} {c c' : Cell} {i : PyData} {v : Val} {x y : V} {Q : Hp → Prop}
theorem put_cell (S : Sim T F ι st H) (hk : st[k]? = some c) (e : putC c i v = some c') (ri : Dat T.K F y i) (rv : VRel T F ι st.length v x) (q : ∀ o, Sim T F ι (st.set k c') (upd H (ι k) o) → Q (upd H (ι k) o)) : rSetA (.ref (ι k)) y x H Q := by
  have lt := S.idx hk
  unfold putC at e
  split at e
  · rename_i ds
    split at e
    · rename_i j d
      cases hj : ixN ds.length j with
      | none => rw [hj] at e; cases e
      | some m =>
        rw [hj] at e
        cases e
        cases ri
        cases rv with
        | p rv =>
          obtain ⟨f0, us, h1, h2⟩ := pl_of S hk
          exact .inl ⟨_, us, j, m, rfl, rfl, h1, by rw [h2.length]; exact hj, q _ (S.put lt f0 ⟨f0, _, upd_same, DatL.set rv m h2⟩)⟩
    · cases e
  · rename_i vs
    split at e
    · rename_i j
      cases hj : ixN vs.length j with
      | none => rw [hj] at e; cases e
      | some m =>
        rw [hj] at e
        cases e
        cases ri
        obtain ⟨f0, us, h1, h2⟩ := ml_of S hk
        exact .inl ⟨_, us, j, m, rfl, rfl, h1, by rw [← h2.length]; exact hj, q _ (S.put lt f0 ⟨f0, _, upd_same, VRelL.set rv m h2⟩)⟩
    · cases e
  · rename_i kvs
    split at e
    · rename_i d
      split at e
      · rename_i hz
        cases e
        obtain ⟨hl, hkey, hkind⟩ := hz
        cases rv with
        | p rv =>
          obtain ⟨f0, hc⟩ := pd_of S hk
          -- the key
          have kk : (∃ g : Key, y = kV g ∧ i = keyD g) ∨ ∃ (g : List Key) (b : Addr), y = .ref b ∧ F b = some (.tup (g.map kV)) ∧ i = .tuple (g.map keyD) := by
            cases i with
            | tuple ds =>
              cases ri with
              | tup h1 h2 =>
                obtain ⟨g, rfl, rfl⟩ := keys_of h2 hkey
                exact .inr ⟨g, _, rfl, h1, rfl⟩
            | int j => exact .inl (key1_of ri rfl)
            | str z => exact .inl (key1_of ri rfl)
            | none => cases hkey
            | bool _ => cases hkey
            | list _ => cases hkey
            | dict _ => cases hkey
          have kd : ∀ {q : PyData × PyData} {r : List (PyData × PyData)}, kvs = q :: r → isKey1 q.1 = isKey1 i := fun {q r} z => by
            rw [z] at hkind
            simpa [kindOK] using hkind
          refine .inr ⟨_, rfl, ?_⟩
          rcases kk with ⟨g, rfl, rfl⟩ | ⟨g, b, rfl, hb, rfl⟩
          · rcases hc with ⟨us, h1, h2⟩ | ⟨us, h1, h2⟩
            · exact .inl ⟨_, .inl ⟨us, g, h1, rfl, by rw [lenK h2, ← SZ_eq]; exact hl, rfl⟩, q _ (S.put lt f0 ⟨f0, .inl ⟨_, upd_same, DatK.put rv h2⟩⟩)⟩
            · cases h2 with
              | nil => exact .inr (.inr ⟨h1, g, rfl, q _ (S.put lt f0 ⟨f0, .inl ⟨_, upd_same, .cons rv .nil⟩⟩)⟩)
              | cons a b =>
                have := kd rfl
                cases g <;> cases this
          · rcases hc with ⟨us, h1, h2⟩ | ⟨us, h1, h2⟩
            · cases h2 with
              | nil => exact .inr (.inl ⟨h1, g, b, rfl, S.sub.tup hb, q _ (S.put lt f0 ⟨f0, .inr ⟨_, upd_same, .cons rv .nil⟩⟩)⟩)
              | cons a b =>
                rename_i kq _ _ _ _
                have := kd rfl
                cases kq <;> cases this
            · exact .inl ⟨_, .inr ⟨us, g, b, h1, rfl, S.sub.tup hb, by rw [lenT h2, ← SZ_eq]; exact hl, rfl⟩, q _ (S.put lt f0 ⟨f0, .inr ⟨_, upd_same, DatT.put rv h2⟩⟩)⟩
      · cases e
    · cases e
  · cases e
  · cases e
end
section
variable {X : Cx} {T : Tb} {W : L2.WX} {Kt : Kit} {fl : Nat → List Str} {e o ie : Expr} {pos tpos : Pos}
theorem ds_sub {x a i : Ex} (hu : X.A.units + 100 < cLine) (h : DE X T W e (evalX Kt x)) (h1 : DE X T W o (evalX Kt a)) (h2 : DE X T W ie (evalX Kt i))
    (ha : ∀ v, assign (.Subscript o ie tpos) X.env v = (do
      let ov ← holding [v] (eval o X.env)
      let iv ← holding [v, ov] (eval ie X.env)
      standAt tpos
      holding [v, ov, iv] (setItem ov iv v)
      release [v, ov, iv] []))
    (hs : swapsWithSole [.Subscript o ie tpos] e pos.line X.env = pure false) (hw : swappedStores [.Subscript o ie tpos] e X.env = pure none) (hm : (assignEach [.Subscript o ie tpos] X.env).map (·.2) = [assign (.Subscript o ie tpos) X.env]) :
    DS X T W (.Assign [.Subscript o ie tpos] e pos) (execS Kt fl (.asg (.sub a i) x)) :=
  ps_imp (ps_asg h (pg_sub h1 h2 (set_any (by omega)) ha) hs hw hm) fun D σ H ⟨F, ι, env, st, S, E, p⟩ => by
    rw [execS] at p
    refine ev_go (f := evalX Kt x) S E ((fl_bind (RA := RV T) E p).imp fun z H1 ⟨F1, ι1, v, st1, M, E1, q⟩ => ?_)
    refine ev_go (f := evalX Kt a) M.sim E1 ((fl_bind (RA := RV T) E1 q).imp fun y H2 ⟨F2, ι2, w, st2, M2, E2, q2⟩ => ?_)
    refine ev_go (f := evalX Kt i) M2.sim E2 ((fl_bind (RA := RV T) E2 q2).imp fun u H3 ⟨F3, ι3, j, st3, M3, E3, q3⟩ => ?_)
    have rv := (M.rel.up M2.nx M2.le).up M3.nx M3.le
    have rw_ := M2.rel.up M3.nx M3.le
    have rj := M3.rel
    split at q3
    · rename_i k d
      split at q3
      · rename_i c hc
        split at q3
        · rename_i c' hp
          cases rw_ with
          | r hk =>
            cases rj with
            | p rj =>
              refine put_cell M3.sim hc hp rj rv fun ob S4 => ?_
              refine q3 F3 ι3 _ σ (Next.refl _ _ _) (by simp) S4 ?_
              rw [List.length_set]
              exact E3
        · exact q3.elim
      · exact q3.elim
    · exact q3.elim
end
end Vm
end

section
/-! V24: a def is left. -/
namespace Vm
open PySem L2 PySem.Spec PyProof.Rows

section
variable {T : Tb} {F H : Hp} {ι : Nat → Addr} {n m : Nat}
mutual
theorem VRel.low : ∀ (v : Val) (x : V), below n v = true → VRel T F ι m v x → VRel T F ι n v x
  | .p d, _, _, q => by cases q with | p q => exact .p q
  | .r k, _, h, q => by cases q with | r q => exact .r (by simpa [below] using h)
  | .t vs, _, h, q => by cases q with | t q1 q2 => exact .t q1 (VRelL.low vs _ (by simpa [below] using h) q2)
  | .l vs, _, h, q => by cases q with | l q1 q2 => exact .l q1 (VRelL.low vs _ (by simpa [below] using h) q2)
  | .x c ds, _, _, q => by cases q with | x q1 q2 q3 => exact .x q1 q2 q3
theorem VRelL.low : ∀ (vs : List Val) (xs : List V), belowL n vs = true → VRelL T F ι m vs xs → VRelL T F ι n vs xs
  | [], _, _, q => by cases q; exact .nil
  | v :: vs, _, h, q => by
    cases q with
    | cons q1 q2 =>
      have h : below n v = true ∧ belowL n vs = true := by simpa [belowL] using h
      exact .cons (VRel.low v _ h.1 q1) (VRelL.low vs _ h.2 q2)
end
theorem MdK.low : ∀ {vs : List (PyData × Val)} {xs : List (Key × V)}, belowL n (vs.map (·.2)) = true → MdK T F ι m vs xs → MdK T F ι n vs xs
  | _, _, _, .nil => .nil
  | _, _, h, .cons h1 h2 => by
    have h := h
    rw [List.map_cons, belowL, Bool.and_eq_true] at h
    exact .cons (VRel.low _ _ h.1 h1) (MdK.low h.2 h2)
theorem MdT.low : ∀ {vs : List (PyData × Val)} {xs : List (List Key × V)}, belowL n (vs.map (·.2)) = true → MdT T F ι m vs xs → MdT T F ι n vs xs
  | _, _, _, .nil => .nil
  | _, _, h, .cons h1 h2 => by
    have h := h
    rw [List.map_cons, belowL, Bool.and_eq_true] at h
    exact .cons (VRel.low _ _ h.1 h1) (MdT.low h.2 h2)
theorem OFld.low : ∀ {vs : List (Str × Val)} {xs : List (Str × V)}, belowL n (vs.map (·.2)) = true → OFld T F ι m vs xs → OFld T F ι n vs xs
  | _, _, _, .nil => .nil
  | _, _, h, .cons h1 h2 => by
    have h := h
    rw [List.map_cons, belowL, Bool.and_eq_true] at h
    exact .cons (VRel.low _ _ h.1 h1) (OFld.low h.2 h2)
theorem CellR.low {a : Addr} {c : Cell} (b : cellBelow n c = true) (h : CellR T F ι m H a c) : CellR T F ι n H a c := by
  cases c with
  | pl ds => exact h
  | ml vs => obtain ⟨h0, xs, h1, h2⟩ := h; exact ⟨h0, xs, h1, VRelL.low _ _ b h2⟩
  | pd es => exact h
  | md vs =>
    obtain ⟨h0, ⟨xs, h1, h2⟩ | ⟨xs, h1, h2⟩⟩ := h
    · exact ⟨h0, .inl ⟨xs, h1, h2.low b⟩⟩
    · exact ⟨h0, .inr ⟨xs, h1, h2.low b⟩⟩
  | ob c fs => obtain ⟨h0, dx, gs, h1, h2⟩ := h; exact ⟨h0, dx, gs, h1, h2.low b⟩
  | fz d => exact h
  | lk c => exact h.elim
theorem Sim.take {st : Store} (S : Sim T F ι st H) (hn : n ≤ st.length) (h : (st.take n).all (cellBelow n) = true) : Sim T F ι (st.take n) H := by
  have hl : (st.take n).length = n := by rw [List.length_take]; omega
  refine ⟨S.sub, fun k c e => ?_, fun j k hj hk e => ?_, S.gd, fun a u e => ⟨(S.gf a u e).1, fun k hk => ?_⟩, S.tb, S.nt⟩
  · have hk : k < n := by have := S.idx (st := st) (k := k) (c := c) (by rw [List.getElem?_take] at e; split at e; exact e; cases e); rw [List.getElem?_take] at e; split at e <;> first | assumption | cases e
    rw [hl]
    have e2 : st[k]? = some c := by rw [List.getElem?_take_of_lt hk] at e; exact e
    exact (S.cel k c e2).low (List.all_eq_true.mp h c (List.mem_of_getElem? e))
  · rw [hl] at hj hk
    exact S.inj j k (by omega) (by omega) e
  · rw [hl] at hk
    exact (S.gf a u e).2 k (by omega)
theorem leave_sim {st s2 : Store} {keep : Bool} {v v2 : Val} {x : V} (S : Sim T F ι st H) (hn : n ≤ st.length) (r : VRel T F ι st.length v x) (e : leave keep n v st = .ok v2 s2) :
    ∃ F2, Next F ι n F2 ι ∧ n ≤ s2.length ∧ Sim T F2 ι s2 H ∧ VRel T F2 ι s2.length v2 x := by
  cases keep with
  | true =>
    unfold leave at e
    simp only at e
    cases e
    exact ⟨F, Next.refl _ _ _, hn, S, r⟩
  | false =>
    unfold leave at e
    simp only at e
    split at e
    · rename_i hb
      have hl : (st.take n).length = n := by rw [List.length_take]; omega
      have S1 := S.take hn hb
      have fin : ∀ w, below n w = true → w = v → (.ok w (st.take n) : R Val) = .ok v2 s2 → ∃ F2, Next F ι n F2 ι ∧ n ≤ s2.length ∧ Sim T F2 ι s2 H ∧ VRel T F2 ι s2.length v2 x := fun w hw hv e => by
        cases e
        subst hv
        exact ⟨F, Next.refl _ _ _, by rw [hl]; exact Nat.le_refl _, S1, by rw [hl]; exact VRel.low _ _ hw r⟩
      split at e
      · exact fin _ rfl rfl e
      · rename_i k
        split at e
        · rename_i hk
          exact fin _ (by simpa [below] using hk) rfl e
        · rename_i hk
          split at e
          · rename_i d hs
            have hz : frzV (.r k) st = .ok (.p d) (st.set k (.fz d)) := by
              cases hc : st[k]? with
              | none => simp [see, hc] at hs
              | some c =>
                cases q : seeC c with
                | none => simp [see, hc, q] at hs
                | some d' =>
                  simp [see, hc, q] at hs
                  subst hs
                  unfold frzV
                  simp only [hc, q]
            have p : PostG (RV T) T W0 [] F ι st.length ((frzV (.r k) st).bind fun w s => .ok w s) (fun _ _ => True) := by
              rw [hz]
              exact fun _ _ _ _ _ _ _ _ => trivial
            obtain ⟨F2, v', st', N, hl2, S2, r2, _, hz2, _⟩ := frz_post S r p
            rw [hz] at hz2
            cases hz2
            cases e
            have ht : (st.set k (.fz d)).take n = st.take n := by
              apply List.ext_getElem?
              intro j
              rw [List.getElem?_take, List.getElem?_take]
              split
              · rw [List.getElem?_set_ne (by omega)]
              · rfl
            have S3 := S2.take (n := n) (by rw [hl2]; exact hn) (by rw [ht]; exact hb)
            rw [ht] at S3
            refine ⟨F2, ⟨N.f, fun _ _ => rfl⟩, by rw [hl]; exact Nat.le_refl _, S3, ?_⟩
            cases r2 with
            | p r2 => exact .p r2
          · cases e
      · split at e
        · rename_i hw
          exact fin _ hw rfl e
        · cases e
    · cases e
end
end Vm
end

section
/-! V25: all defs, by the calls that are left. -/
namespace Vm
open PySem L2 PySem.Spec PyProof.Rows

/-- the context of a piece of code -/
structure BX (Pr : Program) (w : World) (K : PySem.W.Frag) (mg : Str → Option Value) (base : Heap) (N : List Str) (n : Nat) (W : L2.WX) (X : Cx) : Prop where
  prog : X.prog = Pr
  w : X.w = w
  K : X.K = K
  mg : X.mg = mg
  base : X.base = base
  N : X.N = N
  calm : X.calm = true
  gd : X.A.guards = some []
  room : Room (3 * n + 5) X.A
  tk : Takes X W
  fn : ∀ x, X.fn x = true
  fr : X.ex = [] ∧ X.stack = X.env :: X.outer ∧ X.env.frame = some X.env.locals
/-- a def: its place in the text, its object -/
structure FnI where
  x : Str
  qual : Str
  st : Stmt
  f : Addr
  fd : FuncData
  N : List Str
  ps : List Str
section
variable {Pr : Program} {w : World} {K : PySem.W.Frag} {mg : Str → Option Value} {base : Heap} {T : Tb} {P : Pg} {info : Nat → FnI}
def AllF (Pr : Program) (w : World) (K : PySem.W.Frag) (mg : Str → Option Value) (base : Heap) (T : Tb) (P : Pg) (info : Nat → FnI) (n : Nat) : Prop :=
  ∀ i d, P.fns i = some d → FnG Pr w K mg base (3 * n + 3) (info i).f (info i).fd (info i).ps (spOf T P n i)
theorem startR {G : Hp} {F : Hp} {ι : Nat → Addr} {st : Store} {ws : List Val} {vs : List V} {N : List Str} {np ns : Nat} (r : VRelL T F ι st.length ws vs) (h1 : ws.length = np) (h2 : N.length = ns) (h3 : np ≤ ns) :
    EnvR (T.wG G) F ι st.length (L2.start N vs) (ws.map some ++ List.replicate (ns - np) none) := by
  have hv : vs.length = np := by rw [← r.length]; exact h1
  refine ⟨by unfold L2.start; simp; omega, fun i v e => ?_⟩
  by_cases hi : i < ws.length
  · rw [List.getElem?_append_left (by simpa using hi), List.getElem?_map] at e
    cases q : ws[i]? with
    | none => rw [q] at e; cases e
    | some u =>
      rw [q] at e
      cases e
      obtain ⟨x, hx, hr⟩ := r.get q
      refine ⟨x, ?_, hr.to (SameT.wG T G)⟩
      unfold L2.start
      rw [List.getElem?_append_left (by simp; omega), List.getElem?_map, hx]
      rfl
  · rw [List.getElem?_append_right (by simpa using hi), List.getElem?_replicate] at e
    split at e <;> cases e
/-- behind a def's body -/
theorem out_post {G : Hp} {F : Hp} {ι : Nat → Addr} {keep : Bool} {m : Nat} {r : Fl} {Q : VK} {E : XK} (p : PostG (RV T) (T.wG G) (fun cls dd _ H => E cls dd H) [] F ι m (outB keep m r) Q) :
    PostS (T.wG G) (fun cls dd _ H => E cls dd H) F ι m r { nx := fun _ H' => Q .non H', rt := Q } := by
  revert p
  cases r with
  | rt v s1 =>
    intro p F' ι' H' x N hn S r
    cases e : leave keep m v s1 with
    | no => unfold outB at p; simp only at p; rw [e] at p; exact p.elim
    | er c fs s =>
      unfold leave at e
      split at e
      · cases e
      · split at e
        · split at e
          · cases e
          · split at e
            · cases e
            · split at e <;> cases e
          · split at e <;> cases e
        · cases e
    | ok v2 s2 =>
      unfold outB at p
      simp only at p
      rw [e] at p
      obtain ⟨F2, N2, h2, S2, r2⟩ := leave_sim S hn r e
      exact p F2 ι' H' x (N.trans N2 (Nat.le_refl _)) h2 S2 (r2.to (SameT.wG T G).symm)
  | nx e1 s1 =>
    intro p F' ι' H' σ' N hn S _
    have r : VRel (T.wG G) F' ι' s1.length (.p .none) .non := .p .non
    cases e : leave keep m (.p .none) s1 with
    | no => unfold outB at p; simp only at p; rw [e] at p; exact p.elim
    | er c fs s =>
      unfold leave at e
      split at e
      · cases e
      · split at e <;> cases e
    | ok v2 s2 =>
      unfold outB at p
      simp only at p
      rw [e] at p
      obtain ⟨F2, N2, h2, S2, r2⟩ := leave_sim S hn r e
      exact p F2 ι' H' .non (N.trans N2 (Nat.le_refl _)) h2 S2 (r2.to (SameT.wG T G).symm)
  | bk e1 s1 => exact fun p => p.elim
  | ct e1 s1 => exact fun p => p.elim
  | no => exact fun p => p
  | er c fs e1 s1 =>
    intro p F' ι' H' σ' cls dd N hn S _ x
    unfold outB at p
    simp only at p
    unfold leaveE at p
    split at p
    · exact p F' ι' H' cls dd N hn S x
    · split at p
      · rename_i hb
        have hl2 : (s1.take m).length = m := by rw [List.length_take]; omega
        exact p F' ι' H' cls dd N (by rw [hl2]; exact Nat.le_refl _) (S.take hn hb) x
      · exact p.elim
/-- what a body gives, as the def's promise says -/
theorem body_post {G : Hp} {F : Hp} {ι : Nat → Addr} {n i : Nat} {st : Store} {ws : List Val} {d : Fn} {Q : VK} {E : XK} (hd : P.fns i = some d) (hl : ws.length = d.np)
    (p : PostG (RV T) (T.wG G) (fun cls dd _ H => E cls dd H) [] F ι st.length (runF P (n + 1) i ws st) Q) :
    PostS (T.wG G) (fun cls dd _ H => E cls dd H) F ι st.length (execS (kitOf P n) P.fields d.body (ws.map some ++ List.replicate (d.ns - d.np) none) st) { nx := fun _ H' => Q .non H', rt := Q } := by
  rw [runF_succ, hd] at p
  simp only at p
  unfold runB at p
  rw [if_pos hl] at p
  exact out_post p
/-- a def stands: its function object -/
def Stands (K : PySem.W.Frag) (x qual : Str) (st : Stmt) (f : Addr) (fd : FuncData) : Prop := ∃ (oc : Value) (od : Option Addr) (dV kV doc pm : Value) (an : Option Addr) (cdv ct : Value) (osl : Array (Option Value)),
    fd = PySem.W.fnOf x qual (defArgs st) (defBody st) (defScope st) dV kV doc pm an cdv ct ∧ K.lookup f = some ⟨oc, od, .func fd, osl⟩ ∧ PySem.W.codeIn K cdv qual = true
theorem Stands.okG {P : Program} {w : World} {K : PySem.W.Frag} {mg : Str → Option Value} {base : Heap} {x qual : Str} {st : Stmt} {f : Addr} {fd : FuncData} {N ps : List Str} {k : Nat} {sp : Sp} (F : Stands K x qual st f fd) (S : FnScope N ps (defScope st)) (len : ∀ vs H Q E, sp vs H Q E → vs.length = ps.length)
    (hbody : ∀ (cdv : Value) (A : Around) (outer : List PySem.Env) (s : Shared) (H : Hp) (vs : List V) (Q : VK) (E : XK), fd.code = cdv → Room k (A.deeper (envOfC qual (defScope st) s.heap.objs.size f cdv)) → A.guards = some [] → sp vs H Q E →
      ∃ t, PSs (cxOf (L2.CX P w) P w K mg base N qual (defScope st) f cdv A outer s H E) (defBody st) t ∧ t { nx := fun _ H' => Q .non H', rt := Q } (start N vs) H) : FnG P w K mg base (k + 1) f fd ps sp := by
  obtain ⟨oc, od, dV, kV, doc, pm, an, cdv, ct, osl, rfl, lk, hcd⟩ := F
  exact fnG_of lk hcd S len fun A outer s H vs Q E hr hG hsp => hbody cdv A outer s H vs Q E rfl hr hG hsp
theorem allF (hI : ∀ i d, P.fns i = some d → Stands K (info i).x (info i).qual (info i).st (info i).f (info i).fd ∧ FnScope (info i).N (info i).ps (defScope (info i).st) ∧ (info i).ps.length = d.np ∧ (info i).N.length = d.ns ∧ d.np ≤ d.ns)
    (hB : ∀ n, (∀ m, m ≤ n → AllF Pr w K mg base T P info m) → ∀ i d, P.fns i = some d → ∀ (G : Hp) (W : L2.WX) (X : Cx), BX Pr w K mg base (info i).N n W X → X.env.scope = defScope (info i).st → PassesOwn (model X.prog X.w) X.A X.env X.xe →
      X.env.code = (info i).fd.code → (∃ (L f : Addr) (cd : Value), X.env = envOfC (info i).qual (defScope (info i).st) L f cd) →
      DSs X (T.wG G) W (defBody (info i).st) (execS (kitOf P n) P.fields d.body)) : ∀ n m, m ≤ n → AllF Pr w K mg base T P info m
  | _, 0, _ => fun i d hd => ⟨fun vs H Q E ⟨_, _, _, _, _, _, _, _, _, _, p⟩ => p.elim, fun A outer s H args us vs Q E _ _ _ _ _ ⟨_, _, _, _, _, _, _, _, _, _, p⟩ => p.elim⟩
  | 0, m + 1, h => absurd h (by omega)
  | n + 1, m + 1, h => fun i d hd => by
    obtain ⟨hF, hS, hp, hN, hle⟩ := hI i d hd
    have ih := allF hI hB n
    refine Stands.okG hF hS (fun vs H Q E ⟨G, F, ι, st, ws, d', S, r, k1, k2, p⟩ => ?_) fun cdv A outer s H vs Q E hcd hr hG ⟨G, F, ι, st, ws, d', S, r, k1, k2, p⟩ => ?_
    · rw [hd] at k1
      cases k1
      rw [← r.length, k2, hp]
    · rw [hd] at k1
      cases k1
      refine ⟨_, hB m (fun j hj => ih j (by omega)) i d hd G (fun cls dd _ H => E cls dd H) _ ⟨rfl, rfl, rfl, rfl, rfl, rfl, rfl, hG, hr, takes_of rfl rfl rfl rfl, fun _ => rfl, rfl, rfl, rfl⟩ rfl (passes_of rfl) hcd.symm ⟨_, _, _, rfl⟩, F, ι, _, st, S, startR r k2 hN hle, body_post hd k2 p⟩
end
end Vm
end

section
/-! V26: enumerate, zip of two lists. -/
namespace Vm
open PySem L2 PySem.Spec PyProof.Rows

section
variable {X : Cx} {T : Tb} {W : L2.WX} {Kt : Kit} {e e1 e2 : Expr} {es elts : List Expr} {pos p p2 tpos : Pos} {kk : Nat}
theorem di_enu {a : Ex} (hK : X.K = T.K) (hg : Gl X "enumerate") (hm : X.mg "enumerate" = none) (h1 : DE X T W e (evalX Kt a)) (hs : starEach [e] X.env = [(false, eval e X.env)]) (hs' : starEach [e] X.env = (false, eval e X.env) :: starEach [] X.env) :
    DI X T W (.Tuple elts kk tpos) (.Call (.Name "enumerate" p) [e] [] pos) (evalI Kt (.enu a)) :=
  pi_imp (pi_enum (pos := pos) (p := p) hg hm (da_cons h1 (da_nil (Kt := Kt)) hs') hs) fun σ H Q ⟨F, ι, env, st, S, E, q⟩ => by
    rw [evalI] at q
    refine ev_go (f := evalL Kt (.cons a .nil)) S E ?_
    have q' : PostG (RI T) T W σ F ι st.length ((evalL Kt (.cons a .nil) env st).bind fun vs st1 => match vs with
      | [x] => (frzV x st1).bind fun x st1 => match asL x with
        | some vs => .ok (enumV 0 vs) st1
        | none => .no
      | _ => .no) Q := by
      rw [evalL]
      revert q
      cases evalX Kt a env st with
      | no => exact fun q => q
      | er c fs s => exact fun q => q
      | ok v s =>
        simp only [R.bind_ok, evalL]
        exact fun q => q
    refine (PostG.bind (RA := RL T) q').imp fun xs H1 ⟨F1, ι1, vs, st1, M, p1⟩ => ?_
    split at p1
    · rename_i v
      obtain ⟨y, rfl, ry⟩ := M.rel.one
      obtain ⟨F2, w, st2, N, hl, S2, r2, hn, hz, p2⟩ := frz_post M.sim ry p1
      split at p2
      · rename_i vs hv
        obtain ⟨q, us, rfl, r1, l1⟩ := asL_rd r2 hv
        exact ⟨q, us, rfl, .inl (S2.sub.rd r1), p2.now (Next.refl _ _ _) (Nat.le_refl _) S2 (by rw [hK]; exact Wk.enum r1 l1)⟩
      · exact p2.elim
    · exact p1.elim
end
end Vm
end

section
/-! V27: zip of a text and a tuple. -/
namespace Vm
open PySem L2 PySem.Spec PyProof.Rows

def ItzS (K : PySem.W.Frag) (z : Str) (b : Addr) : It :=
  ⟨fun i H => ∃ (ys : List V) (c : Nat) (y : V), SqT K H b ys ∧ z.cps[i]? = some c ∧ ys[i]? = some y,
    fun i H v H' => ∃ T c y, v = .ref T ∧ H T = none ∧ H' = upd H T (.tup [.str ⟨#[c]⟩, y]) ∧ z.cps[i]? = some c ∧ ∀ ys, SqT K H b ys → ys[i]? = some y,
    fun i H => ∃ ys : List V, SqT K H b ys ∧ i ≤ z.cps.size ∧ i ≤ ys.length ∧ (i = z.cps.size ∨ i = ys.length)⟩
theorem turn_zipS {P : Program} {w : World} {K : PySem.W.Frag} {elts : List Expr} {kk : Nat} {tpos : Pos} {zs : Str} {tk : Tok} {b z TI TO i1 i2 : Addr} (D : ZipSep2 z TI TO i1 i2 [i1] [i2, b]) (hb : b ≠ i2) :
    Turn P w K (.Tuple elts kk tpos) (ItzS K zs b) [z, TI, TO, i1, i2] z (fun i h => IsZip h z TI TO .none ∧ IsTupOf2 h TI (.ref i1) (.ref i2) ∧ (∃ x y, IsTupOf2 h TO x y) ∧ h.IsStrIter i1 (strIterType zs) zs tk i ∧ h.IsTupleIter i2 b i) where
  mem := by simp
  obj := fun i h st c hc => by
    obtain ⟨hz, hTI, ⟨x, y, hTO⟩, ⟨o1, e1, _, d1⟩, ⟨o2, e2, _, d2⟩⟩ := st
    have e' : c = z ∨ c = TI ∨ c = TO ∨ c = i1 ∨ c = i2 := by simpa using hc
    rcases e' with q | q | q | q | q
    · rw [q]; exact ⟨_, hz, fun v q => nomatch q⟩
    · rw [q]; exact ⟨_, hTI, fun v q => nomatch q⟩
    · rw [q]; exact ⟨_, hTO, fun v q => nomatch q⟩
    · rw [q]; exact ⟨o1, e1, fun v q => by rw [d1] at q; cases q⟩
    · rw [q]; exact ⟨o2, e2, fun v q => by rw [d2] at q; cases q⟩
  keep := fun i h h' st k => by
    obtain ⟨hz, hTI, ⟨x, y, hTO⟩, ⟨o1, e1, r1⟩, h2⟩ := st
    exact ⟨k z (by simp) _ hz, k TI (by simp) _ hTI, ⟨x, y, k TO (by simp) _ hTO⟩, ⟨o1, k i1 (by simp) _ e1, r1⟩, h2.at fun o q => k i2 (by simp) o q⟩
  item := by
    intro X hP hw hK hc i pins s σ H E I hf st hg
    subst hP hw hK
    obtain ⟨hz, hTI, ⟨x0, y0, hTO⟩, h1, h2⟩ := st
    obtain ⟨ys, c, y, hq, hx, hy⟩ := hg
    obtain ⟨its, rv, p, _⟩ := I.tuple hq
    obtain ⟨u, hu, ru⟩ := rv.get hy
    have hzl : z < s.heap.objs.size := Heap.lt_size hz
    have hh : X.A.in1.handled = none := I.ok.hd hc
    have D1 := Draws.text (prog := X.prog) (w := X.w) (A := X.A.in1) hh i1 zs tk
    have D2 := Draws.tuple (prog := X.prog) (w := X.w) (A := X.A.in1) hh i2 b hb its.toArray
    have lt1 : i < zs.cps.size := (Array.getElem?_eq_some_iff.mp hx).1
    have lt2 : i < its.toArray.size := by
      rw [List.size_toArray, ← rv.length]
      rcases Nat.lt_or_ge i ys.length with h | h
      · exact h
      · rw [List.getElem?_eq_none h] at hy; cases hy
    refine wpAny_pyNext_zipD2_item D D1 D2 hz hTI hTO h1 ⟨h2, p⟩ lt1 lt2 fun v1 v2 h' t' q1 q2 z' TO' h1' h2' hT hsz hk => ?_
    refine ⟨_, rfl, wpAny_letOwnedTupleGo_zip (s := { s with heap := h', toks := t' }) z' fun h'' z'' sb => ?_⟩
    obtain ⟨c', tt, hc', rfl⟩ := q1
    rw [hx] at hc'
    cases hc'
    have e2 : v2 = u := by
      have := q2
      rw [← Array.getElem?_toList] at this
      simp only [List.toList_toArray] at this
      rw [hu] at this
      exact (Option.some.inj this).symm
    subst e2
    have hT2 : h''.get? s.heap.objs.size = some { cls := .type "tuple", data := .seq #[.str ⟨#[c]⟩ tt, v2] } := (sb.2 _ (Nat.ne_of_gt hzl)).trans hT
    have new : ObjOk X.prog X.w (upd H s.heap.objs.size (.tup [.str ⟨#[c]⟩, y])) h'' s.heap.objs.size (.tup [.str ⟨#[c]⟩, y]) :=
      ⟨by show 2 ≤ sizeLine; decide, [.str ⟨#[c]⟩ tt, v2], .cons ⟨tt, rfl⟩ (.cons ru .nil), ⟨_, hT2, rfl, _, rfl⟩⟩
    have I1 : Inv X pins σ (upd H s.heap.objs.size (.tup [.str ⟨#[c]⟩, y])) { s with heap := h'', toks := t' } :=
      I.turnedNew (t' := t') (ch := [z, TI, TO, i1, i2]) (fun c o hb q => (sb.2 c (fun q' => hb (by simp [q']))).trans (hk c o (fun q' => hb (by simp [q'])) (fun q' => hb (by simp [q'])) (fun q' => hb (by simp [q'])) (fun q' => hb (by simp [q'])) q)) hf (Nat.le_refl _) new
    have ni1 : i1 ≠ z := fun e => D.zf1 (by simp [e])
    have ni2 : i2 ≠ z := fun e => D.zf2 (by simp [e])
    refine ⟨.ref s.heap.objs.size, _, I1, rfl, ⟨_, c, y, rfl, I.hok.fresh (Nat.le_refl _), rfl, hx, fun l hl => by rw [I.tuple_inj hl hq]; exact hy⟩, ⟨z'', ?_, ⟨.str ⟨#[c]⟩ tt, v2, ?_⟩, ?_, ?_⟩, fun c hcm => ?_⟩
    · exact (sb.2 _ D.TIz).trans (hk _ _ D.TIz D.TITO D.TIi1 D.TIi2 hTI)
    · exact (sb.2 _ D.TOz).trans TO'
    · obtain ⟨o1, e1, r1⟩ := h1'
      exact ⟨o1, (sb.2 _ ni1).trans e1, r1⟩
    · exact h2'.1.at fun o q => (sb.2 _ ni2).trans q
    · have hlt : c < s.heap.objs.size := by
        have e' : c = z ∨ c = TI ∨ c = TO ∨ c = i1 ∨ c = i2 := by simpa using hcm
        rcases e' with q | q | q | q | q
        · rw [q]; exact hzl
        · rw [q]; exact Heap.lt_size hTI
        · rw [q]; exact Heap.lt_size hTO
        · rw [q]; obtain ⟨_, e1, _⟩ := h1; exact Heap.lt_size e1
        · rw [q]; obtain ⟨_, e1, _⟩ := h2; exact Heap.lt_size e1
      rw [upd_ne (Nat.ne_of_lt hlt)]
      exact (hf c hcm).1
  done := by
    intro X hP hw hK hc i pins s σ H E I hf st hg
    subst hP hw hK
    obtain ⟨hz, hTI, ⟨x0, y0, hTO⟩, h1, h2⟩ := st
    obtain ⟨ys, hq, l1, l2, hend⟩ := hg
    obtain ⟨its, rv, p, _⟩ := I.tuple hq
    have hh : X.A.in1.handled = none := I.ok.hd hc
    have D1 := Draws.text (prog := X.prog) (w := X.w) (A := X.A.in1) hh i1 zs tk
    have D2 := Draws.tuple (prog := X.prog) (w := X.w) (A := X.A.in1) hh i2 b hb its.toArray
    have hl := rv.length
    exact wpAny_pyNext_zipD2_end D D1 D2 hz hTI hTO h1 ⟨h2, p⟩ l1 (by show i ≤ its.length; rw [← hl]; exact l2) (by show i = zs.cps.size ∨ i = its.length; rw [← hl]; exact hend) fun h' t' hk => ⟨rfl, I.turnedL (t' := t') (ch := [z, TI, TO, i1, i2]) (fun c o hb q =>
      hk c o (fun q' => hb (by simp [q'])) (fun q' => hb (by simp [q'])) (fun q' => hb (by simp [q'])) (fun q' => hb (by simp [q'])) q) hf⟩
  self := fun A i s Q E st h => wpAny_pyIter_zip st.1 h
/-- zip(x, y): two lists, or a text and a tuple -/
def iZipB (K : PySem.W.Frag) (ta : TA) : TI := fun σ H R => ta σ H fun vs H1 => (∃ a b xs ys, vs = [.ref a, .ref b] ∧ SqL K H1 a xs ∧ SqL K H1 b ys ∧ R (Itz K a b) H1) ∨ (∃ z b ys, vs = [.str z, .ref b] ∧ SqT K H1 b ys ∧ R (ItzS K z b) H1)
theorem pi_zipB {X : Cx} {e e2 : Expr} {ta : TA} {p pos tpos : Pos} {elts : List Expr} {kk : Nat} (hg : Gl X "zip") (hm : X.mg "zip" = none) (ha : PA X [e, e2] ta)
    (hs : starEach [e, e2] X.env = (false, eval e X.env) :: starEach [e2] X.env) (hpl : (backTo pos (starEach [e2] X.env)).any (·.1) = false) :
    PI X (.Tuple elts kk tpos) (.Call (.Name "zip" p) [e, e2] [] pos) (iZipB X.K ta) := by
  refine ⟨fun pins s σ H R I h => ?_⟩
  refine Call_ (ld_blt I hg hm PyProof.Rows.boot_zip (PyProof.Rows.callWith_type1 (thn (ha.run pos pins s σ H _ I h) fun us s1 ⟨vs, H1, I1, r1, q1⟩ => ?_) hs hpl))
  have fresh5 : ∀ c, c ∈ [s1.heap.objs.size + 4, s1.heap.objs.size + 2, s1.heap.objs.size + 3, s1.heap.objs.size, s1.heap.objs.size + 1] → FpOk X pins H1 c := fun c hcm => by
    have e' : c = s1.heap.objs.size + 4 ∨ c = s1.heap.objs.size + 2 ∨ c = s1.heap.objs.size + 3 ∨ c = s1.heap.objs.size ∨ c = s1.heap.objs.size + 1 := by simpa using hcm
    have hle : s1.heap.objs.size ≤ c := by omega
    exact I1.fpOk hle (I1.hok.fresh hle)
  rcases q1 with ⟨a, b, xs, ys, ex, hqx, hqy, q⟩ | ⟨z, b, ys, ex, hq, q⟩
  · subst ex
    obtain ⟨u1, u2, rfl, ra, rb⟩ := vals2 r1
    cases ra
    cases rb
    obtain ⟨its, rv, p1, _⟩ := I1.list hqx
    obtain ⟨its2, rv2, p2, _⟩ := I1.list hqy
    refine call_zip_2 p1.isList p2.isList fun h' hz hTI hTO h1 h2 hsz hk => wpAny_pyIter_zip hz ?_
    have I2 : Inv X pins σ H1 { s1 with heap := h' } := I1.kept (t' := s1.toks) hk
    exact ⟨s1.heap.objs.size + 4, [s1.heap.objs.size + 4, s1.heap.objs.size + 2, s1.heap.objs.size + 3, s1.heap.objs.size, s1.heap.objs.size + 1], _, _, H1, rfl, I2, turn_zip (PySem.W.ktu_apart s1.heap.objs.size a b p1.lt p2.lt), ⟨hz, hTI, ⟨_, _, hTO⟩, h1, h2⟩, fresh5, q⟩
  · subst ex
    obtain ⟨u1, u2, rfl, ⟨t, rfl⟩, rb⟩ := vals2 r1
    cases rb
    obtain ⟨its, rv, p1, _⟩ := I1.tuple hq
    have hlt : b < s1.heap.objs.size := by obtain ⟨o, ho, _⟩ := id p1; exact Heap.lt_size ho
    refine zip_begins2 (begins_text z t) (begins_tuple b its.toArray) trivial p1 fun h' hz hTI hTO g1 g2 hsz hk => wpAny_pyIter_zip hz ?_
    have I2 : Inv X pins σ H1 { s1 with heap := h' } := I1.kept (t' := s1.toks) hk
    have D : ZipSep2 (s1.heap.objs.size + 4) (s1.heap.objs.size + 2) (s1.heap.objs.size + 3) s1.heap.objs.size (s1.heap.objs.size + 1) [s1.heap.objs.size] [s1.heap.objs.size + 1, b] := by
      have nb : ∀ k : Nat, s1.heap.objs.size + k ≠ b := fun k e => Nat.lt_irrefl _ (Nat.lt_of_lt_of_le hlt (by rw [← e]; exact Nat.le_add_right _ _))
      have nb0 : s1.heap.objs.size ≠ b := nb 0
      have nb4 := nb 4
      have nb3 := nb 3
      constructor <;> first | omega | (simp; done) | (simp; omega) | (simp; exact nb4) | (simp; exact nb3) | (simp; exact nb0) | (simp; exact ⟨by omega, nb4⟩) | (simp; exact ⟨by omega, nb3⟩) | (simp; exact ⟨by omega, nb0⟩)
    exact ⟨s1.heap.objs.size + 4, [s1.heap.objs.size + 4, s1.heap.objs.size + 2, s1.heap.objs.size + 3, s1.heap.objs.size, s1.heap.objs.size + 1], _, _, H1, rfl, I2, turn_zipS (zs := z) (tk := t) (b := b) D (fun e => Nat.lt_irrefl _ (Nat.lt_of_lt_of_le hlt (by rw [e]; exact Nat.le_add_right _ _))), ⟨hz, hTI, ⟨_, _, hTO⟩, ⟨_, g1, rfl, rfl⟩, ⟨_, g2, rfl, rfl⟩⟩, fresh5, q⟩
end Vm
end

section
/-! V28: zip as a step. -/
namespace Vm
open PySem L2 PySem.Spec PyProof.Rows

theorem Wk.zipS {T : Tb} {F : Hp} {ι : Nat → Addr} {n : Nat} {b : Addr} {z : Str} {ys : List V} {ds : List PyData} (h : F b = some (.tup ys)) (r : DatL T.K F ys ds) :
    Wk T F ι n ((((charsOf z).map Val.p).zip (ds.map Val.p)).map fun q => mkT [q.1, q.2]) (ItzS T.K z b) := by
  have len : (charsOf z).length = z.cps.size := by simp [charsOf]
  have at_ : ∀ {i : Nat} {v : Val}, ((charsOf z).map Val.p)[i]? = some v → ∃ c, z.cps[i]? = some c ∧ v = .p (.str ⟨#[c]⟩) := fun {i v} e => by
    unfold charsOf at e
    rw [List.getElem?_map, List.getElem?_map, Array.getElem?_toList] at e
    cases q : z.cps[i]? with
    | none => rw [q] at e; cases e
    | some c => rw [q] at e; cases e; exact ⟨c, rfl, rfl⟩
  have rr : VRelL T F ι n (ds.map .p) ys := .ofDat r
  refine ⟨fun T' F' ι' st H i v t N hn S e => ?_, fun T' F' ι' st H i v x H' t N hn S e y => ?_, fun T' F' ι' st H t N hn S => ?_⟩
  · obtain ⟨v1, v2, h1, h2, _⟩ := zip_get e
    obtain ⟨c, hc, _⟩ := at_ h1
    obtain ⟨y, hy, _⟩ := rr.get h2
    exact ⟨ys, c, y, SqT.of (S.sub.tup (N.f _ _ h)), hc, hy⟩
  · obtain ⟨v1, v2, h1, h2, rfl⟩ := zip_get e
    obtain ⟨c, hc, rfl⟩ := at_ h1
    obtain ⟨y', hy, r2⟩ := rr.get h2
    obtain ⟨p, c', y2, rfl, hp, rfl, k1, k2⟩ := y
    rw [hc] at k1
    cases k1
    have e2 := k2 ys (SqT.of (S.sub.tup (N.f _ _ h)))
    rw [hy] at e2
    cases e2
    exact pair_new S hp (.p (.str _)) (r2.up N hn)
  · have l2 := r.length
    refine ⟨ys, SqT.of (S.sub.tup (N.f _ _ h)), ?_⟩
    rw [List.length_map, List.length_zip, List.length_map, List.length_map, len, ← l2]
    omega
section
variable {X : Cx} {T : Tb} {W : L2.WX} {Kt : Kit} {e e1 e2 : Expr} {es elts : List Expr} {pos p p2 tpos : Pos} {kk : Nat}
theorem di_zip {a b : Ex} (hK : X.K = T.K) (hg : Gl X "zip") (hm : X.mg "zip" = none) (h1 : DE X T W e1 (evalX Kt a)) (h2 : DE X T W e2 (evalX Kt b)) (hs : starEach [e1, e2] X.env = (false, eval e1 X.env) :: starEach [e2] X.env) (hs2 : starEach [e2] X.env = (false, eval e2 X.env) :: starEach [] X.env) (hpl : (backTo pos (starEach [e2] X.env)).any (·.1) = false) :
    DI X T W (.Tuple elts kk tpos) (.Call (.Name "zip" p) [e1, e2] [] pos) (evalI Kt (.zip a b)) :=
  pi_imp (pi_zipB (pos := pos) (p := p) hg hm (da_cons h1 (da_cons h2 (da_nil (Kt := Kt)) hs2) hs) hs hpl) fun σ H Q ⟨F, ι, env, st, S, E, q⟩ => by
    rw [evalI] at q
    refine ev_go (f := evalL Kt (.cons a (.cons b .nil))) S E ?_
    have q' : PostG (RI T) T W σ F ι st.length ((evalL Kt (.cons a (.cons b .nil)) env st).bind fun vs st2 => match vs with
      | [x, y] => (frzV x st2).bind fun x st2 => (frzV y st2).bind fun y st2 => match zipV x y with
        | some vs => .ok vs st2
        | none => .no
      | _ => .no) Q := by
      rw [evalL]
      revert q
      cases evalX Kt a env st with
      | no => exact fun q => q
      | er c fs s => exact fun q => q
      | ok v s =>
        simp only [R.bind_ok, evalL]
        cases evalX Kt b env s with
        | no => exact fun q => q
        | er c fs s => exact fun q => q
        | ok w s2 =>
          simp only [R.bind_ok]
          exact fun q => q
    refine (PostG.bind (RA := RL T) q').imp fun xs H1 ⟨F1, ι1, vs, st1, M, p1⟩ => ?_
    split at p1
    · rename_i v1 v2
      obtain ⟨y1, y2, rfl, r1, r2⟩ := M.rel.two
      obtain ⟨F2, w1, st2, N, hl, S2, q1, hn, hz, p2⟩ := frz_post M.sim r1 p1
      obtain ⟨F3, w2, st3, N2, hl2, S3, q2, hn2, hz2, p3⟩ := frz_post (v := v2) S2 (r2.up (n' := st2.length) N (by rw [hl]; exact Nat.le_refl _)) p2
      have q1 := q1.up (n' := st3.length) N2 (by rw [hl2]; exact Nat.le_refl _)
      split at p3
      · rename_i vs hv
        unfold zipV at hv
        split at hv
        · rename_i us ws k1 k2
          cases hv
          obtain ⟨a1, xs1, rfl, d1, l1⟩ := asL_rd q1 k1
          obtain ⟨a2, xs2, rfl, d2, l2⟩ := asL_rd q2 k2
          exact .inl ⟨a1, a2, xs1, xs2, rfl, .inl (S3.sub.rd d1), .inl (S3.sub.rd d2), p3.now (Next.refl _ _ _) (Nat.le_refl _) S3 (by rw [hK]; exact Wk.zipL d1 l1 d2 l2)⟩
        · split at hv
          · cases hv
            cases q1 with
            | p q1 =>
              cases q2 with
              | p q2 =>
                cases q1
                cases q2 with
                | tup g1 g2 => exact .inr ⟨_, _, _, rfl, SqT.of (S3.sub.tup g1), p3.now (Next.refl _ _ _) (Nat.le_refl _) S3 (by rw [hK]; exact Wk.zipS g1 g2)⟩
          · cases hv
      · exact p3.elim
    · exact p1.elim
end
end Vm
end

section
/-! V29: dict displays. -/
namespace Vm
open PySem L2 PySem.Spec PyProof.Rows

def tExG (T : Tb) (W : L2.WX) (Kt : Kit) (e : Ex) : TE := fun σ H K => ∃ G, tEvG (RV (T.wG G)) (T.wG G) W (evalX Kt e) σ H K
def trsOf (T : Tb) (W : L2.WX) (Kt : Kit) : Ex → List (TE × TE)
  | .cons k (.cons v r) => (tExG T W Kt k, tExG T W Kt v) :: trsOf T W Kt r
  | _ => []
def evenL : Ex → Bool
  | .nil => true
  | .cons _ (.cons _ r) => evenL r
  | _ => false
def toPairs : List V → List (V × V)
  | x :: y :: r => (x, y) :: toPairs r
  | _ => []
section
variable {T : Tb} {W : L2.WX} {Kt : Kit}
theorem pairs_ev : ∀ (a : Ex), evenL a = true → ∀ (G : Hp) (σ : L2.St) (H : Hp) (K : List (V × V) → Hp → Prop), tEvG (RL (T.wG G)) (T.wG G) W (evalL Kt a) σ H (fun xs H1 => K (toPairs xs) H1) → tPairs (trsOf T W Kt a) σ H K
  | .nil, _, G, σ, H, K, ⟨F, ι, env, st, S, E, p⟩ => by
    rw [evalL] at p
    exact p.now (Next.refl _ _ _) (Nat.le_refl _) S .nil
  | .cons k (.cons v r), he, G, σ, H, K, ⟨F, ι, env, st, S, E, p⟩ => by
    rw [evalL] at p
    refine ⟨G, ev_go S E ((PostG.bind (RA := RV (T.wG G)) p).imp fun x H1 ⟨F1, ι1, x', st1, M, p1⟩ => ?_)⟩
    have E1 := E.up M.nx M.le
    rw [evalL, bind_bind] at p1
    refine ⟨G, ev_go M.sim E1 ((PostG.bind (RA := RV (T.wG G)) p1).imp fun y H2 ⟨F2, ι2, y', st2, M2, p2⟩ => ?_)⟩
    have E2 := E1.up M2.nx M2.le
    refine pairs_ev r (by simpa [evenL] using he) G σ H2 _ (ev_go M2.sim E2 ?_)
    rw [bind_bind] at p2
    refine (PostG.bind (RA := RL (T.wG G)) p2).imp fun xs H3 ⟨F3, ι3, xs', st3, M3, p3⟩ => ?_
    simp only [R.bind_ok] at p3
    exact p3.now (Next.refl _ _ _) (Nat.le_refl _) M3.sim (.cons ((M.rel.up M2.nx M2.le).up M3.nx M3.le) (.cons (M2.rel.up M3.nx M3.le) M3.rel))
end
section
variable {T : Tb} {F H : Hp} {ι : Nat → Addr} {n : Nat}
/-- the pairs of a display, keys ints and texts -/
theorem pairs_rel : ∀ {vs : List Val} {xs : List V} {kvs : List (PyData × Val)}, VRelL T F ι n vs xs → pairsOf vs = some kvs → (kvs.all fun q => isKey1 q.1) = true → ∃ ks : List (Key × V), toPairs xs = ks.map (fun kv => (kV kv.1, kv.2)) ∧ MdK T F ι n kvs ks
  | _, _, _, .nil, e, _ => by cases e; exact ⟨[], rfl, .nil⟩
  | [.p k], _, _, .cons h1 .nil, e, _ => by cases e
  | .p k :: v :: vs, _, kvs, .cons h1 (.cons (x := y) h2 h3), e, hk => by
    cases q : pairsOf vs with
    | none => rw [pairsOf, q] at e; cases e
    | some r =>
      rw [pairsOf, q] at e
      cases e
      rw [List.all_cons, Bool.and_eq_true] at hk
      obtain ⟨ks, e1, r1⟩ := pairs_rel h3 q hk.2
      cases h1 with
      | p h1 =>
        obtain ⟨g, rfl, rfl⟩ := key1_of h1 hk.1
        exact ⟨(g, y) :: ks, by rw [toPairs, e1]; rfl, .cons h2 r1⟩
  | .r _ :: _, _, _, .cons _ _, e, _ => by cases e
  | .t _ :: _, _, _, .cons _ _, e, _ => by cases e
  | .l _ :: _, _, _, .cons _ _, e, _ => by cases e
  | .x _ _ :: _, _, _, .cons _ _, e, _ => by cases e
end
end Vm
end

section
/-! V30: dict displays as a step. -/
namespace Vm
open PySem L2 PySem.Spec PyProof.Rows

section
variable {T : Tb} {F H : Hp} {ι : Nat → Addr} {n : Nat}
theorem MdK.snoc {k : Key} {v : Val} {x : V} (hd : VRel T F ι n v x) : ∀ {es : List (PyData × Val)} {kvs : List (Key × V)}, MdK T F ι n es kvs → MdK T F ι n (es ++ [(keyD k, v)]) (kvs ++ [(k, x)])
  | _, _, .nil => .cons hd .nil
  | _, _, .cons h1 h2 => .cons h1 (MdK.snoc hd h2)
theorem MdK.mapP {k : Key} {v : Val} {x : V} (hd : VRel T F ι n v x) : ∀ {es : List (PyData × Val)} {kvs : List (Key × V)}, MdK T F ι n es kvs → MdK T F ι n (es.map fun q => if keyEq q.1 (keyD k) = true then (q.1, v) else q) (kvs.map fun q => if q.1 = k then (q.1, x) else q)
  | _, _, .nil => .nil
  | _, _, .cons (k := kk) h1 h2 => by
    rw [List.map_cons, List.map_cons]
    have q : keyEq (keyD kk) (keyD k) = decide (kk = k) := keyD_eqv kk k
    simp only [q]
    by_cases z : kk = k
    · rw [if_pos z, if_pos (decide_eq_true z)]
      exact .cons hd (MdK.mapP hd h2)
    · rw [if_neg z, if_neg (by simpa using z)]
      exact .cons h1 (MdK.mapP hd h2)
theorem MdK.anyEq (k : Key) : ∀ {es : List (PyData × Val)} {kvs : List (Key × V)}, MdK T F ι n es kvs → (kvs.any fun kv => decide (kv.1 = k)) = es.any fun q => keyEq q.1 (keyD k)
  | _, _, .nil => rfl
  | _, _, .cons (k := kk) h1 h2 => by
    rw [List.any_cons, List.any_cons, MdK.anyEq k h2]
    have q : keyEq (keyD kk) (keyD k) = decide (kk = k) := keyD_eqv kk k
    simp only [q]
theorem MdK.put {k : Key} {v : Val} {x : V} (hd : VRel T F ι n v x) {es : List (PyData × Val)} {kvs : List (Key × V)} (h : MdK T F ι n es kvs) : MdK T F ι n (Vm.putK es (keyD k) v) (L2.putK kvs k x) := by
  unfold L2.putK Vm.putK
  rw [h.anyEq k]
  split
  · exact h.mapP hd
  · exact h.snoc hd
theorem MdK.puts : ∀ (fs : List (PyData × Val)) (more : List (Key × V)) (es : List (PyData × Val)) (kvs : List (Key × V)), MdK T F ι n fs more → MdK T F ι n es kvs → MdK T F ι n (fs.foldl (fun a q => Vm.putK a q.1 q.2) es) (more.foldl (fun a q => L2.putK a q.1 q.2) kvs)
  | _, _, _, _, .nil, h => h
  | (_, v) :: fs, (k, x) :: more, es, kvs, h0, h => by
    cases h0 with
    | cons h1 h2 => exact MdK.puts fs more (Vm.putK es (keyD k) v) (L2.putK kvs k x) h2 (MdK.put h1 h)
theorem MdK.len : ∀ {es : List (PyData × Val)} {kvs : List (Key × V)}, MdK T F ι n es kvs → es.length = kvs.length
  | _, _, .nil => rfl
  | _, _, .cons _ h => by simp [MdK.len h]
theorem MdK.pure : ∀ {es : List (PyData × Val)} {kvs : List (Key × V)} {ds : List PyData}, MdK T F ι n es kvs → unPs (es.map (·.2)) = some ds → DatK T.K F kvs ((es.map (·.1)).zip ds)
  | _, _, _, .nil, e => by cases e; exact .nil
  | _, _, ds, .cons (v := v) (vs := vs) h1 h2, e => by
    rw [List.map_cons, unPs] at e
    cases v with
    | p d =>
      cases q : unPs (vs.map (·.2)) with
      | none => simp only [unP, q] at e; cases e
      | some es =>
        simp only [unP, q] at e
        cases e
        cases h1 with
        | p h1 => exact .cons h1 (MdK.pure h2 q)
    | _ => cases e
theorem allocD_at {W : L2.WX} {σ : L2.St} {D : Addr} {st : Store} {f : Nat} {kvs : List (PyData × Val)} {ks : List (Key × V)} {Q : VK} (S : Sim (T.wG (upd T.G D (.dK ks))) F ι st H) (hD : T.G D = none) (r : MdK T F ι st.length kvs ks) (p : PostG (RV T) T W σ F ι st.length (allocD f kvs st) Q) : Q (.ref D) H := by
  obtain ⟨S1, h, f0, ne, nt⟩ := S.melt hD
  have last : ∀ c : Cell, VRel T F (fun k => if k = st.length then D else ι k) (st ++ [c]).length (.r st.length) (.ref D) := fun c => by
    have := VRel.r (T := T) (F := F) (ι := fun k => if k = st.length then D else ι k) (n := (st ++ [c]).length) (k := st.length) (by simp)
    simpa using this
  unfold allocD at p
  split at p
  · split at p
    · rename_i ds e
      obtain ⟨S2, N⟩ := S1.adoptF hD h f0 ne nt
      exact p _ ι H _ N (Nat.le_refl _) S2 (.p (.dik (.inl upd_same) ((r.pure e).up (T := T) (F' := upd F D (.dK ks)) N.sub)))
    · exact p.elim
  · split at p
    · rename_i ds e
      obtain ⟨S2, N⟩ := S1.adoptC (c := .pd ((kvs.map (·.1)).zip ds)) hD h ne ⟨f0, .inl ⟨ks, h, r.pure e⟩⟩
      exact p F _ _ (.ref D) N (by simp) S2 (last _)
    · exact p.elim
  · obtain ⟨S2, N⟩ := S1.adoptC (c := .md kvs) hD h ne ⟨f0, .inl ⟨ks, h, r.up ⟨fun _ _ h => h, fun k hk => if_neg (Nat.ne_of_lt hk)⟩ (Nat.le_succ _)⟩⟩
    exact p F _ _ (.ref D) N (by simp) S2 (last _)
theorem MdK.to' {T' : Tb} (h : SameT T T') {vs : List (PyData × Val)} {xs : List (Key × V)} (q : MdK T F ι n vs xs) : MdK T' F ι n vs xs := MdK.to h q
end
section
variable {X : Cx} {T : Tb} {W : L2.WX} {Kt : Kit} {pos : Pos} {keys : List (Option Expr)} {values : List Expr} {f : Nat} {a : Ex}
theorem disp_ev {σ : L2.St} {H : Hp} {Q : VK} (he : evenL a = true) (q : tEvG (RV T) T W (evalX Kt (.dic f a)) σ H Q) : tDisp (trsOf T W Kt a) σ H Q := fun p hp => by
  obtain ⟨F, ι, env, st, S, E, q⟩ := q
  rw [evalX] at q
  have gD : T.G p = none := by
    cases z : T.G p with
    | none => rfl
    | some o => have := S.gd p o z; rw [hp] at this; cases this
  refine pairs_ev a he (upd T.G p (.dK [])) σ _ _ ⟨F, ι, env, st, S.guard hp, E.to (SameT.wG T _), ?_⟩
  revert q
  cases evalL Kt a env st with
  | no => exact fun q => q.elim
  | er c fs s =>
    intro q F' ι' H' cls d N hn S' x
    exact q F' ι' H' cls d N hn (S'.melt gD).1 ⟨x.cls, x.dct⟩
  | ok vs s =>
    intro q F' ι' H' xs N hn S' r
    simp only [R.bind_ok] at q
    have hDD : H' p = some (.dK []) := S'.gd p _ upd_same
    refine ⟨hDD, ?_⟩
    have r := VRelL.to r (SameT.wG T (upd T.G p (.dK []))).symm
    split at q
    · rename_i kvs hk
      split at q
      · rename_i hh
        obtain ⟨ks, e1, r1⟩ := pairs_rel r hk hh.1
        refine ⟨ks, e1, by rw [← r1.len]; exact hh.2, ?_⟩
        exact allocD_at (D := p) (S'.reguard fun _ z => nomatch z) gD (MdK.puts _ _ _ _ r1 .nil) (q.up N hn fun _ _ _ _ => trivial)
      · exact q.elim
    · exact q.elim
theorem dps_nil : PPs X pos [] [] (trsOf T W Kt .nil) := pps_nil
theorem dps_cons {k v : Expr} {ks : List (Option Expr)} {vs : List Expr} {x y r : Ex} (hk : ∀ G, DE X (T.wG G) W k (evalX Kt x)) (hv : ∀ G, DE X (T.wG G) W v (evalX Kt y)) (hr : PPs X pos ks vs (trsOf T W Kt r)) : PPs X pos (some k :: ks) (v :: vs) (trsOf T W Kt (.cons x (.cons y r))) :=
  pps_cons ⟨fun pins s σ H Q I ⟨G, q⟩ => (hk G).run pins s σ H Q I q⟩ ⟨fun pins s σ H Q I ⟨G, q⟩ => (hv G).run pins s σ H Q I q⟩ hr
theorem de_dic (h : PPs X pos keys values (trsOf T W Kt a)) (he : evenL a = true) (hall : keys.all (·.isSome) = true) (hl : keys.length = values.length) (h0 : keys ≠ []) (h15 : keys.length ≤ 15) : DE X T W (.Dict keys values pos) (evalX Kt (.dic f a)) :=
  pe_imp (pe_disp h hall hl h0 h15) fun σ H Q q => disp_ev he q
theorem de_dic0 : DE X T W (.Dict [] [] pos) (evalX Kt (.dic f .nil)) := pe_imp pe_dnewK fun σ H Q ⟨F, ι, env, st, S, E, q⟩ p hp => by
  have gD : T.G p = none := by
    cases z : T.G p with
    | none => rfl
    | some o => have := S.gd p o z; rw [hp] at this; cases this
  rw [evalX, evalL] at q
  simp only [R.bind_ok, pairsOf] at q
  rw [if_pos ⟨rfl, by decide⟩] at q
  exact allocD_at (D := p) (ks := []) (S.guard hp) gD .nil q
end
end Vm
end

section
/-! V31: what must be seen of the text; pairs of names. -/
namespace Vm
open PySem L2 PySem.Spec PyProof.Rows

def nStar : Expr → Bool
  | .Starred .. => false
  | _ => true
def nBase : Expr → Bool
  | .Call _ [] _ _ => false
  | _ => true
def nComp : Expr → Bool
  | .ListComp .. => false
  | .SetComp .. => false
  | .DictComp .. => false
  | _ => true
def nSet : Expr → Bool
  | .Set .. => false
  | _ => true
def nSlice : Expr → Bool
  | .Slice .. => false
  | _ => true
def nTest : Expr → Bool
  | .UnaryOp .Not _ _ => false
  | .BoolOp .. => false
  | .IfExp .. => false
  | .Compare .. => false
  | _ => true
def nTup : Expr → Bool
  | .Tuple .. => false
  | _ => true
section
variable {env : PySem.Env} {e o : Expr} {es : List Expr} {pos : Pos}
theorem star_cons (h : nStar e = true) : starEach (e :: es) env = (false, eval e env) :: starEach es env := by
  cases e <;> first | rfl | cases h
theorem star_any : ∀ {es : List Expr}, es.all nStar = true → (backTo pos (starEach es env)).any (·.1) = false
  | [], _ => rfl
  | e :: es, h => by
    rw [List.all_cons, Bool.and_eq_true] at h
    rw [star_cons h.1]
    show (false || (backTo pos (starEach es env)).any (·.1)) = false
    rw [Bool.false_or]
    exact star_any h.2
theorem star_all : ∀ {es : List Expr}, es.all nStar = true → (backTo pos (starEach es env)).all (fun x => !x.1) = true
  | [], _ => rfl
  | e :: es, h => by
    rw [List.all_cons, Bool.and_eq_true] at h
    rw [star_cons h.1]
    show (!false && (backTo pos (starEach es env)).all (fun x => !x.1)) = true
    exact star_all h.2
theorem few_ok (h : es.all nStar = true) (hl : es.length < 30) : ((backTo pos (starEach es env)).all (fun x => !x.1) && (backToKw pos (keywordEach [] env)).all (fun x => x.1.isSome)
      && decide (es.length + ([] : List Keyword).length + (if ([] : List Keyword).isEmpty then 0 else 1) < 30)) = true := by
  rw [star_all h]
  show (true && true && decide (es.length + 0 + 0 < 30)) = true
  simp [hl]
theorem base_ok {name : Str} (h : nBase o = true) : attributeBase o name env (eval o env) = eval o env := by
  cases o <;> first | rfl | skip
  rename_i f args kws pos
  cases args with
  | nil => cases h
  | cons a as => cases f <;> rfl
theorem swaps_ok {t : Option Expr} {l : Nat} (h : nComp e = true) : swapsWith e t l env = pure false := by
  cases e <;> first | rfl | cases h
theorem sole_ok {t : Expr} {l : Nat} (h : nComp e = true) : swapsWithSole [t] e l env = pure false := swaps_ok h
theorem stores_ok {t : Expr} (h : nTup e = true) : swappedStores [t] e env = pure none := by
  unfold swappedStores
  cases t <;> (cases e <;> first | rfl | cases h)
theorem stores_ok1 {x : Str} {p : Pos} : swappedStores [.Name x p] e env = pure none := by
  unfold swappedStores
  cases e <;> rfl
theorem stores_ok2 {a b : Expr} {p : Pos} : swappedStores [.Subscript a b p] e env = pure none := by
  unfold swappedStores
  cases e <;> rfl
theorem fold_ok (h : nSet e = true) : ∀ x, foldedSetIterable e env x = pure x := fun x => by
  cases e <;> first | rfl | cases h
theorem ix_ok (h : nSlice e = true) : PlainIx e := fun o i => by
  cases e <;> first | rfl | cases h
theorem test_ok (h : nTest e = true) (whole : Sem Value) : isTrue e env whole = (do let v ← whole; standAt e.pos; holding [v] (truthy v)) := by
  cases e <;> first | rfl | (cases h; done) | skip
  rename_i op x p
  cases op <;> first | rfl | cases h
theorem each_one {t : Expr} (h : nStar t = true) : (assignEach [t] env).map (·.2) = [assign t env] := by
  cases t <;> first | rfl | cases h
theorem each_all : ∀ {es : List Expr}, es.all nStar = true → (assignEach es env).length = es.length ∧ (assignEach es env).findIdx? (·.1) = none
  | [], _ => ⟨rfl, rfl⟩
  | e :: es, h => by
    rw [List.all_cons, Bool.and_eq_true] at h
    obtain ⟨h1, h2⟩ := each_all (es := es) h.2
    have z : assignEach (e :: es) env = (false, assign e env) :: assignEach es env := by
      cases e <;> first | rfl | (exact absurd h.1 (by simp [nStar]))
    rw [z]
    refine ⟨by simp [h1], ?_⟩
    rw [List.findIdx?_cons]
    simp [h2]
end
end Vm
end

section
/-! V32: calls by keywords; pairs of names. -/
namespace Vm
open PySem L2 PySem.Spec PyProof.Rows

abbrev DK (X : Cx) (T : Tb) (W : L2.WX) (kws : List Keyword) (f : Env → Store → R (List Val)) : Prop := PK X kws (tEvG (RL T) T W f)
theorem pk_imp {X : Cx} {e : List Keyword} {t t' : TA} (h : PK X e t) (i : ∀ σ H Q, t' σ H Q → t σ H Q) : PK X e t' := ⟨fun pos pins s σ H Q I q => h.run pos pins s σ H Q I (i _ _ _ q)⟩
theorem permL_rel {T : Tb} {F : Hp} {ι : Nat → Addr} {n : Nat} {vs : List Val} {xs : List V} (r : VRelL T F ι n vs xs) : ∀ pm : List Nat, VRelL T F ι n (permL pm vs) (permL pm xs)
  | [] => .nil
  | i :: pm => by
    have ih := permL_rel r pm
    unfold permL at ih ⊢
    rw [List.filterMap_cons, List.filterMap_cons]
    cases h : vs[i]? with
    | none =>
      have : xs[i]? = none := by
        rw [List.getElem?_eq_none_iff] at h ⊢
        rw [← r.length]; exact h
      rw [this]
      exact ih
    | some v =>
      obtain ⟨x, hx, rx⟩ := r.get h
      rw [hx]
      exact .cons rx ih
theorem permL_vals {vs : List V} {us : List Value} (r : Vals vs us) : ∀ pm : List Nat, Vals (permL pm vs) (permL pm us) := by
  have get : ∀ {vs : List V} {us : List Value}, Vals vs us → ∀ i : Nat, (vs[i]? = none ∧ us[i]? = none) ∨ ∃ v u, vs[i]? = some v ∧ us[i]? = some u ∧ RelV v u := by
    intro vs us r
    induction r with
    | nil => exact fun i => .inl ⟨by simp, by simp⟩
    | cons h _ ih =>
      intro i
      cases i with
      | zero => exact .inr ⟨_, _, rfl, rfl, h⟩
      | succ i => simpa using ih i
  intro pm
  induction pm with
  | nil => exact .nil
  | cons i pm ih =>
    unfold permL at ih ⊢
    rw [List.filterMap_cons, List.filterMap_cons]
    rcases get r i with ⟨h1, h2⟩ | ⟨v, u, h1, h2, h3⟩
    · rw [h1, h2]; exact ih
    · rw [h1, h2]; exact .cons h3 ih
/-- how f(.., k = v) binds -/
def KSig (K : PySem.W.Frag) (fd : FuncData) (ps : List Str) (n : Nat) (ks : List Str) (pm : List Nat) : Prop :=
  ∀ (s : Shared) (us ws : List Value), K.In s.heap → us.length = n → ws.length = ks.length → BindsTo s fd ⟨us, ks.zip ws⟩ (ps.zip (permL pm (us ++ ws)))
def tCallP (sp : Sp) (n m : Nat) (pm : List Nat) (E : L2.St → XK) (t tk : TA) : TE := fun σ H Q => t σ H fun vs H1 => tk σ H1 fun zs H2 => vs.length = n ∧ zs.length = m ∧ sp (permL pm (vs ++ zs)) H2 Q (E σ)
section
variable {X : Cx} {k n : Nat} {f : Addr} {fd : FuncData} {ps ks : List Str} {pm : List Nat} {sp : Sp} {E : L2.St → XK} {x : Str} {p pos : Pos} {e : Expr} {es : List Expr} {kws : List Keyword} {t tk : TA}
theorem run_fnGK {pins : List (Addr × Obj)} {σ : L2.St} {H : Hp} {s : Shared} {Q : VK} {us ws : List Value} {vs zs : List V} (F : FnG X.prog X.w X.K X.mg X.base k f fd ps sp) (hr : Room k X.A) (hG : X.A.guards = some []) (hb : KSig X.K fd ps n ks pm) (hx : PassesAt (L2.CX X.prog X.w) X σ (E σ))
    (I : Inv X pins σ H s) (r : Vals vs us) (rz : Vals zs ws) (l1 : vs.length = n) (l2 : zs.length = ks.length) (h : sp (permL pm (vs ++ zs)) H Q (E σ)) : wpAny (model X.prog X.w) X.A (call (.ref f) us (ks.zip ws)) (EP X pins σ Q) X.xe s := by
  have r2 := permL_vals (r.append rz) pm
  refine wpAny_call (codeAny_mono (F.run X.A X.stack s H ⟨us, ks.zip ws⟩ _ _ Q (E σ) hr hG I.env0 (hb s us ws I.kIn (r.length.symm.trans l1) (rz.length.symm.trans l2)) r2 h) fun r s' hq => ?_)
  cases r with
  | error e => exact hx pins H s e s' I hq
  | ok fl =>
    cases fl with
    | ret u => exact I.after hq
    | next => exact False.elim hq
    | brk => exact False.elim hq
    | cont => exact False.elim hq
theorem pe_callGK0 (F : FnG X.prog X.w X.K X.mg X.base k f fd ps sp) (hr : Room k X.A) (hG : X.A.guards = some []) (hg : Gl X x) (hm : X.mg x = some (.ref f)) (hk : PySem.W.keepIn X.K (.ref f) = true) (hb : KSig X.K fd ps 0 ks pm) (hx : ∀ σ, PassesAt (L2.CX X.prog X.w) X σ (E σ))
    (hkw : PK X kws tk) (hall : (backToKw pos (keywordEach kws X.env)).all (·.1.isSome) = true) (hks : (backToKw pos (keywordEach kws X.env)).filterMap (·.1) = ks)
    (hdb : (x == ("__debug__" : Str)) = false)
    (hpl : ((backTo pos (starEach [] X.env)).any (·.1) || (backToKw pos (keywordEach kws X.env)).any (·.1.isNone)) = false) :
    PE X (.Call (.Name x p) [] kws pos) (fun σ H Q => tk σ H fun zs H2 => zs.length = ks.length ∧ sp (permL pm zs) H2 Q (E σ)) := by
  refine ⟨fun pins s σ H Q I h => ?_⟩
  refine wpAny_Call_Name_kw (ld_glob I hg hm ?_ hdb)
  refine PySem.W.callWith_KW0 (h₀ := X.base) I.ok.mod.kin hk hall ?_ hpl
  refine thn (hkw.run pos pins s σ H _ I h) fun ws s2 ⟨zs, H2, I2, rz, l2, q2⟩ => ⟨I2.kIn, ?_⟩
  rw [hks]
  exact run_fnGK (vs := []) (us := []) F hr hG hb (hx σ) I2 .nil rz rfl l2 q2
theorem pe_callGK (F : FnG X.prog X.w X.K X.mg X.base k f fd ps sp) (hr : Room k X.A) (hG : X.A.guards = some []) (hg : Gl X x) (hm : X.mg x = some (.ref f)) (hk : PySem.W.keepIn X.K (.ref f) = true) (hb : KSig X.K fd ps n ks pm) (hx : ∀ σ, PassesAt (L2.CX X.prog X.w) X σ (E σ))
    (ha : PA X (e :: es) t) (hkw : PK X kws tk) (hall : (backToKw pos (keywordEach kws X.env)).all (·.1.isSome) = true) (hks : (backToKw pos (keywordEach kws X.env)).filterMap (·.1) = ks)
    (hdb : (x == ("__debug__" : Str)) = false) (he : starEach (e :: es) X.env = (false, eval e X.env) :: starEach es X.env)
    (hpl : ((backTo pos (starEach (e :: es) X.env)).any (·.1) || (backToKw pos (keywordEach kws X.env)).any (·.1.isNone)) = false) :
    PE X (.Call (.Name x p) (e :: es) kws pos) (tCallP sp n ks.length pm E t tk) := by
  refine ⟨fun pins s σ H Q I h => ?_⟩
  refine wpAny_Call_Name_kw (ld_glob I hg hm ?_ hdb)
  refine PySem.W.callWith_KW (h₀ := X.base) I.ok.mod.kin hk hall (thn (ha.run pos pins s σ H _ I h) fun us s1 ⟨vs, H1, I1, r, q⟩ => ?_) hpl he
  refine thn (hkw.run pos pins s1 σ H1 _ I1 q) fun ws s2 ⟨zs, H2, I2, rz, l1, l2, q2⟩ => ⟨I2.kIn, ?_⟩
  rw [hks]
  exact run_fnGK F hr hG hb (hx σ) I2 r rz l1 l2 q2
end
section
variable {X : Cx} {T : Tb} {W : L2.WX} {Kt : Kit} {e : Expr} {es : List Expr} {kws : List Keyword} {pos p kpos : Pos} {x : Str} {nm : Option Str}
theorem dk_nil : DK X T W [] (evalL Kt .nil) := pk_imp pk_nil fun σ H Q hh => by
  obtain ⟨F, ι, env, st, S, E, p⟩ := hh
  rw [evalL] at p
  exact p.now (Next.refl _ _ _) (Nat.le_refl _) S .nil
theorem dk_cons {a b : Ex} (h1 : DE X T W e (evalX Kt a)) (h2 : DK X T W kws (evalL Kt b)) : DK X T W (⟨nm, e, kpos⟩ :: kws) (evalL Kt (.cons a b)) :=
  pk_imp (pk_cons (nm := nm) (kpos := kpos) h1 h2) fun σ H Q hh => by
    obtain ⟨F, ι, env, st, S, E, p⟩ := hh
    rw [evalL] at p
    refine tEvG.imp (ev_go S E (PostG.bind (RA := RV T) p)) fun x H1 ⟨F1, ι1, v, st1, M, p1⟩ => ?_
    refine tEvG.imp (ev_go M.sim (E.up M.nx M.le) (PostG.bind (RA := RL T) p1)) fun xs H2 ⟨F2, ι2, vs, st2, M2, p2⟩ => ?_
    exact p2.now (Next.refl _ _ _) (Nat.le_refl _) M2.sim (.cons (M.rel.up M2.nx M2.le) M2.rel)
theorem sp_go {P : Pg} {n i : Nat} {F H : Hp} {ι : Nat → Addr} {st : Store} {vs : List Val} {xs : List V} {Q : VK} {σ : L2.St} (S : Sim T F ι st H) (r : VRelL T F ι st.length vs xs) (p : PostG (RV T) T W σ F ι st.length (runF P n i vs st) Q) : spOf T P n i xs H Q (fun cls d H => W cls d σ H) := by
  obtain ⟨d, h1, h2⟩ := runF_len p
  refine ⟨T.G, F, ι, st, vs, d, S, r, h1, h2, ?_⟩
  revert p
  cases runF P n i vs st with
  | ok v s => exact fun p => p
  | er c fs s => exact fun p => p
  | no => exact fun p => p
theorem de_callk0 {P : Pg} {n k i : Nat} {ks : List Str} {pm : List Nat} {f : Addr} {fd : FuncData} {ps : List Str} {b : Ex} (hF : FnG X.prog X.w X.K X.mg X.base k f fd ps (spOf T P n i)) (hr : Room k X.A) (hG : X.A.guards = some []) (hg : Gl X x) (hm : X.mg x = some (.ref f)) (hk : PySem.W.keepIn X.K (.ref f) = true) (hb : KSig X.K fd ps 0 ks pm) (tk : Takes X W)
    (hkw : DK X T W kws (evalL (kitOf P n) b)) (hall : (backToKw pos (keywordEach kws X.env)).all (·.1.isSome) = true) (hks : (backToKw pos (keywordEach kws X.env)).filterMap (·.1) = ks)
    (hdb : (x == ("__debug__" : Str)) = false) (hpl : ((backTo pos (starEach [] X.env)).any (·.1) || (backToKw pos (keywordEach kws X.env)).any (·.1.isNone)) = false) :
    DE X T W (.Call (.Name x p) [] kws pos) (evalX (kitOf P n) (.callk i 0 ks pm .nil b)) :=
  pe_imp (pe_callGK0 (E := WE W) hF hr hG hg hm hk hb (passAt tk) hkw hall hks hdb hpl) fun σ H Q ⟨F, ι, env, st, S, E, q⟩ => by
    rw [evalX, evalL] at q
    simp only [R.bind_ok] at q
    refine tEvG.imp (ev_go S E (PostG.bind (RA := RL T) q)) fun xs H1 ⟨F1, ι1, vs, st1, M, p1⟩ => ?_
    split at p1
    · rename_i hl
      exact ⟨M.rel.length.symm.trans hl.2, sp_go M.sim (permL_rel M.rel pm) p1⟩
    · exact p1.elim
theorem de_callk {P : Pg} {n k i m : Nat} {ks : List Str} {pm : List Nat} {f : Addr} {fd : FuncData} {ps : List Str} {a b : Ex} (hF : FnG X.prog X.w X.K X.mg X.base k f fd ps (spOf T P n i)) (hr : Room k X.A) (hG : X.A.guards = some []) (hg : Gl X x) (hm : X.mg x = some (.ref f)) (hk : PySem.W.keepIn X.K (.ref f) = true) (hb : KSig X.K fd ps m ks pm) (tk : Takes X W)
    (ha : DA X T W (e :: es) (evalL (kitOf P n) a)) (hkw : DK X T W kws (evalL (kitOf P n) b)) (hall : (backToKw pos (keywordEach kws X.env)).all (·.1.isSome) = true) (hks : (backToKw pos (keywordEach kws X.env)).filterMap (·.1) = ks)
    (hdb : (x == ("__debug__" : Str)) = false) (he : starEach (e :: es) X.env = (false, eval e X.env) :: starEach es X.env) (hpl : ((backTo pos (starEach (e :: es) X.env)).any (·.1) || (backToKw pos (keywordEach kws X.env)).any (·.1.isNone)) = false) :
    DE X T W (.Call (.Name x p) (e :: es) kws pos) (evalX (kitOf P n) (.callk i m ks pm a b)) :=
  pe_imp (pe_callGK (E := WE W) hF hr hG hg hm hk hb (passAt tk) ha hkw hall hks hdb he hpl) fun σ H Q ⟨F, ι, env, st, S, E, q⟩ => by
    rw [evalX] at q
    refine tEvG.imp (ev_go S E (PostG.bind (RA := RL T) q)) fun xs H1 ⟨F1, ι1, vs, st1, M, p1⟩ => ?_
    refine tEvG.imp (ev_go M.sim (E.up M.nx M.le) (PostG.bind (RA := RL T) p1)) fun ys H2 ⟨F2, ι2, ws, st2, M2, p2⟩ => ?_
    split at p2
    · rename_i hl
      exact ⟨M.rel.length.symm.trans hl.1, M2.rel.length.symm.trans hl.2, sp_go M2.sim (permL_rel ((M.rel.up M2.nx M2.le).append M2.rel) pm) p2⟩
    · exact p2.elim
theorem kw_ok : ∀ {kws : List Keyword} {ks : List Str}, kws.map (·.arg) = ks.map some → (backToKw pos (keywordEach kws X.env)).all (·.1.isSome) = true ∧ (backToKw pos (keywordEach kws X.env)).filterMap (·.1) = ks ∧ (backToKw pos (keywordEach kws X.env)).any (·.1.isNone) = false
  | [], [], _ => ⟨rfl, rfl, rfl⟩
  | ⟨nm, e, kp⟩ :: kws, k :: ks, h => by
    have h1 : nm = some k ∧ kws.map (·.arg) = ks.map some := by simpa using h
    obtain ⟨rfl, h1⟩ := h1
    obtain ⟨a, b, c⟩ := kw_ok (kws := kws) (ks := ks) h1
    have z : backToKw pos (keywordEach (⟨some k, e, kp⟩ :: kws) X.env) = (some k, (do let v ← eval e X.env; standAt pos; pure v)) :: backToKw pos (keywordEach kws X.env) := rfl
    rw [z, List.all_cons, List.filterMap_cons, List.any_cons, a, b, c]
    exact ⟨rfl, rfl, rfl⟩
  | [], _ :: _, h => by simp at h
  | _ :: _, [], h => by simp at h
theorem bindV_mkT {st : Store} {is : List Nat} {vs : List Val} {env : Env} (h : is.length ≠ 1) (hl : vs.length = is.length) : bindV st is (mkT vs) env = some ((is.zip vs).foldl (fun e q => e.set q.1 (some q.2)) env) := by
  unfold bindV
  split
  · exact absurd rfl h
  · unfold mkT
    cases q : unPs vs with
    | none =>
      simp only [see]
      rw [if_pos hl]
    | some ds =>
      have e : vs = ds.map .p := by
        clear hl
        induction vs generalizing ds with
        | nil => unfold unPs at q; cases q; rfl
        | cons v vs ih =>
          unfold unPs at q
          cases v with
          | p d =>
            simp only [unP] at q
            cases z : unPs vs with
            | none => rw [z] at q; cases q
            | some es => rw [z] at q; cases q; rw [ih es z]; rfl
          | r k => cases q
          | t xs => cases q
          | l xs => cases q
          | x c fs => cases q
      subst e
      simp only [see]
      rw [if_pos (by simpa using hl)]
end
section
variable {X : Cx} {T : Tb} {W : L2.WX} {Kt : Kit} {fl : Nat → List Str} {i j l : Nat} {x y z : Str} {a b c : Expr} {px py pz pt pos : Pos} {kt k2 : Nat} {pt2 : Pos} {es : Ex}
theorem unPs_eq : ∀ {vs : List Val} {ds : List PyData}, unPs vs = some ds → vs = ds.map .p
  | [], _, h => by unfold unPs at h; cases h; rfl
  | .p d :: vs, _, h => by
    unfold unPs at h
    simp only [unP] at h
    cases z : unPs vs with
    | none => rw [z] at h; cases h
    | some es => rw [z] at h; cases h; rw [unPs_eq z]; rfl
  | .r _ :: _, _, h => by unfold unPs at h; cases h
  | .t _ :: _, _, h => by unfold unPs at h; cases h
  | .l _ :: _, _, h => by unfold unPs at h; cases h
  | .x _ _ :: _, _, h => by unfold unPs at h; cases h
theorem bindV_len {st : Store} {is : List Nat} {vs : List Val} {env env1 : Env} (h : is.length ≠ 1) (hb : bindV st is (mkT vs) env = some env1) : vs.length = is.length := by
  unfold bindV at hb
  split at hb
  · exact absurd rfl h
  · unfold mkT at hb
    cases hd : unPs vs with
    | none =>
      rw [hd] at hb
      simp only [see] at hb
      split at hb
      · assumption
      · cases hb
    | some ds =>
      rw [hd] at hb
      simp only [see] at hb
      split at hb
      · rw [unPs_eq hd]; simpa using ‹_›
      · cases hb
theorem par_post {F : Hp} {ι : Nat → Addr} {n : Nat} {is : List Nat} {env : Env} {st : Store} {D : Ends} (p : PostS T W F ι n (execS Kt fl (.asg (.t is) (.tup es)) env st) D) :
    PostS T W F ι n ((evalL Kt es env st).fl env fun vs s1 => if vs.length ≤ SZ then (match bindV s1 is (mkT vs) env with | some env1 => Fl.nx env1 s1 | none => .no) else .no) D := by
  rw [execS, evalX] at p
  revert p
  cases evalL Kt es env st with
  | no => exact fun p => p
  | er c fs s => exact fun p => p
  | ok vs s =>
    simp only [R.bind_ok, R.fl_ok]
    by_cases h : vs.length ≤ SZ
    · rw [if_pos h, if_pos h]; exact fun p => p
    · rw [if_neg h, if_neg h]; exact fun p => p
theorem ds_par2 (hc : X.calm = true) (hN : X.N.Nodup) (hi : X.N[i]? = some x) (hj : X.N[j]? = some y) (hij : i ≠ j)
    (hx : X.env.scope.names.lookup x = some .local) (hy : X.env.scope.names.lookup y = some .local) (h : DA X T W [a, b] (evalL Kt es))
    (hw : swappedStores [.Tuple [.Name x px, .Name y py] kt pt] (.Tuple [a, b] k2 pt2) X.env = pure (some [x, y])) :
    DS X T W (.Assign [.Tuple [.Name x px, .Name y py] kt pt] (.Tuple [a, b] k2 pt2) pos) (execS Kt fl (.asg (.t [i, j]) (.tup es))) :=
  ps_imp (ps_par hc hN hi hj hij hx hy h hw) fun D σ H ⟨F, ι, env, st, S, E, p⟩ => by
    refine ev_go (f := evalL Kt es) S E ((fl_bind (RA := RL T) E (par_post p)).imp fun ys H1 ⟨F1, ι1, vs, st1, M, E1, q⟩ => ?_)
    split at q
    · split at q
      · rename_i env1 hb
        have hl := bindV_len (by simp) hb
        rw [bindV_mkT (by simp) hl] at hb
        cases hb
        match vs, ys, M.rel, hl with
        | [v, w], _, .cons r1 (.cons r2 .nil), _ =>
          exact ⟨_, _, rfl, q F1 ι1 H1 _ (Next.refl _ _ _) (Nat.le_refl _) M.sim (sets_env (is := [i, j]) (vs := [v, w]) E1.w (.cons r1 (.cons r2 .nil)) rfl).1⟩
      · exact q.elim
    · exact q.elim
theorem ds_par3 (hc : X.calm = true) (hN : X.N.Nodup) (hi : X.N[i]? = some x) (hj : X.N[j]? = some y) (hz : X.N[l]? = some z) (hij : i ≠ j) (hil : i ≠ l) (hjl : j ≠ l)
    (hx : X.env.scope.names.lookup x = some .local) (hy : X.env.scope.names.lookup y = some .local) (hz' : X.env.scope.names.lookup z = some .local) (h : DA X T W [a, b, c] (evalL Kt es))
    (hw : swappedStores [.Tuple [.Name x px, .Name y py, .Name z pz] kt pt] (.Tuple [a, b, c] k2 pt2) X.env = pure (some [x, y, z])) :
    DS X T W (.Assign [.Tuple [.Name x px, .Name y py, .Name z pz] kt pt] (.Tuple [a, b, c] k2 pt2) pos) (execS Kt fl (.asg (.t [i, j, l]) (.tup es))) :=
  ps_imp (ps_par3 hc hN hi hj hz hij hil hjl hx hy hz' h hw) fun D σ H ⟨F, ι, env, st, S, E, p⟩ => by
    refine ev_go (f := evalL Kt es) S E ((fl_bind (RA := RL T) E (par_post p)).imp fun ys H1 ⟨F1, ι1, vs, st1, M, E1, q⟩ => ?_)
    split at q
    · split at q
      · rename_i env1 hb
        have hl := bindV_len (by simp) hb
        rw [bindV_mkT (by simp) hl] at hb
        cases hb
        match vs, ys, M.rel, hl with
        | [v, w, u], _, .cons r1 (.cons r2 (.cons r3 .nil)), _ =>
          exact ⟨_, _, _, rfl, q F1 ι1 H1 _ (Next.refl _ _ _) (Nat.le_refl _) M.sim (sets_env (is := [i, j, l]) (vs := [v, w, u]) E1.w (.cons r1 (.cons r2 (.cons r3 .nil))) rfl).1⟩
      · exact q.elim
    · exact q.elim
end
end Vm
end

section
/-! V42: an exception that is kept behind its suite. -/
namespace Vm
open PySem L2 PySem.Spec PyProof.Rows
section
variable {X : Cx} {pins : List (Addr × Obj)} {σ : L2.St} {H : Hp} {s : Shared}
/-- an object that is newer than the entry is tracked from now on -/
theorem inv_track {a : Addr} {o : HO} {oe : Obj} {vs : Array Value} (I : Inv X pins σ H s) (h0 : X.s_0.heap.get? a = none) (hn : H a = none) (hL : a ≠ X.env.locals)
    (he : s.heap.get? a = some oe) (hd : oe.data = .fields vs) (hp : ∀ p ∈ X.pn ++ pins, p.1 ≠ a) (nw : ObjOk X.prog X.w (upd H a o) s.heap a o) : Inv X pins σ (upd H a o) s := by
  have some_ne : ∀ {b : Addr} {u : HO}, H b = some u → b ≠ a := fun {b u} q z => by rw [z, hn] at q; cases q
  refine ⟨I.ok, I.os, I.bare, ⟨I.base.keep, I.base.slot, fun b u q h1 h2 => ?_, I.base.there, fun b xs q => ?_, fun b u v q => ?_, fun b ps q => ?_⟩, I.loc, I.cell, ?_, fun x c q => ?_, fun p m => ?_, ?_, I.len⟩
  · have : b ≠ a := fun z => by rw [z, h0] at q; cases q
    rw [upd_ne this]
    exact I.base.free b u q h1 h2
  · have k := I.base.tups b xs q
    rw [upd_ne (some_ne k)]
    exact k
  · have k := I.base.frzs b u v q
    rw [upd_ne (some_ne k)]
    exact k
  · obtain ⟨m, k⟩ := I.base.tbls b ps q
    exact ⟨m, by rw [upd_ne (some_ne k)]; exact k⟩
  · rw [upd_ne fun z => hL z.symm]
    exact I.free
  · have : c ≠ a := fun z => by
      obtain ⟨v, oc, e1, e2⟩ := I.cell x c q
      rw [z, he] at e1
      cases e1
      rw [hd] at e2
      cases e2
    rw [upd_ne this]
    exact I.freeC x c q
  · obtain ⟨k1, k2, k3⟩ := I.pin p m
    exact ⟨k1, by rw [upd_ne (hp p m)]; exact k2, k3⟩
  · exact I.hok.laidN (fun _ _ q => q) hn nw
end
/-- what 'except c as n: y = n' wishes of an exception of the body -/
def wKeep (K : PySem.W.Frag) (c : Value) (i j : Nat) (Wout : L2.WX) (D : Ends) : L2.WX := fun cls d σ H =>
  ∃ b, PySem.W.exmOne K cls c = some b ∧ (b = true → ∃ dd, d = some dd ∧ ∀ a, H a = none → D.nx (((σ.set i (some (.ref a))).set j (some (.ref a))).set i none) (upd H a (ExcH a cls dd))) ∧ (b = false → Wout cls d σ H)
section
variable {X : Cx} {x n y : Str} {c : Value} {i j : Nat} {body : List Stmt} {np p1 p2 pa pos pos' : Pos} {tb : L2.WX → TS} {Wout : L2.WX}
theorem ps_try_keep (hx0 : X.ex = []) (hs : X.stack = X.env :: X.outer) (hf : X.env.frame = some X.env.locals) (hN : X.N.Nodup) (hi : X.N[i]? = some n) (hj : X.N[j]? = some y) (hln : X.env.kindOf n = some .local) (hly : X.env.kindOf y = some .local) (hc : Names X x c) (tk : Takes X Wout)
    (hdn : (n == ("__debug__" : Str)) = false) (hcn : (n == ("__classdict__" : Str)) = false)
    (hsw : swapsWithSole [.Name y p1] (.Name n p2) pa.line X.env = pure false) (hsv : swappedStores [.Name y p1] (.Name n p2) X.env = pure none) (has : (assignEach [.Name y p1] X.env).map (·.2) = [assign (.Name y p1) X.env])
    (hb : ∀ (W : L2.WX) (pn : List (Addr × Obj)) (xe : Value → Shared → Prop), Takes (X.tr pn xe) W → PassesOwn (model X.prog X.w) X.A X.env xe → PSs (X.tr pn xe) body (tb W)) :
    PS X (.Try body [.ExceptHandler (some (.Name x np)) (some n) [.Assign [.Name y p1] (.Name n p2) pa] pos'] [] [] pos) (fun D σ H => tb (wKeep X.K c i j Wout D) D σ H) := by
  refine ⟨fun pins s σ H D I h => wpAny_Try_except ?_⟩
  have ok := I.ok
  have fr : X.A.frames = some (X.env :: X.outer) := hs ▸ ok.frames
  have run := (hb (wKeep X.K c i j Wout D) (X.pn ++ pins) (fun e t1 => wpAny (model X.prog X.w) X.A (noteFrame e X.env) (fun _ t2 => wpAny (model X.prog X.w) X.A (setFlight e none) (fun _ t3 =>
    wpAny (model X.prog X.w) X.A (handleBy e X.env [.ExceptHandler (some (.Name x np)) (some n) [.Assign [.Name y p1] (.Name n p2) pa] pos']) (SP X pins D) X.xe t3) X.xe t2) X.xe t1) (fun u s' xx => ?_) PassesOwn.looking).run [] s σ H D (I.toTry _) h
  · refine wpAny_mono run (fun f t hsp => ?_) fun _ _ z => z
    match f, hsp with
    | .next, ⟨σ1, H1, J, q⟩ => exact wpAny_execs_nil ⟨σ1, H1, J.ofTry ok, q⟩
    | .brk, ⟨σ1, H1, J, q⟩ => exact ⟨σ1, H1, J.ofTry ok, q⟩
    | .cont, ⟨σ1, H1, J, q⟩ => exact ⟨σ1, H1, J.ofTry ok, q⟩
    | .ret u, ⟨v, σ1, H1, J, r, q⟩ => exact ⟨v, σ1, H1, J.ofTry ok, r, q⟩
  · obtain ⟨a, B, sI, pn', σ1, H1, cls, d, rfl, JT, gr, up, sky, na, os, ag, b, hm, yes, no⟩ := xx
    have J : Inv X pins σ1 H1 sI := JT.ofTry ok
    rw [hs] at sky
    refine Sky.land Zc.steady fr hf sky fun g1 fly1 up1 => ?_
    obtain ⟨o1, w1, e1, z1, d1⟩ := fly1.there
    have nfr : a ∉ frs (X.env :: X.outer) := fun hm => by
      obtain ⟨_, ob, eb, nf⟩ := fly1.2.2.1.mem hm
      rw [e1] at eb
      cases eb
      exact nf _ d1
    have aL : a ≠ X.env.locals := fun z => nfr (List.mem_filterMap.mpr ⟨X.env, List.mem_cons_self, by rw [hf, z]⟩)
    have aF : a ∉ X.fs := fun m => by
      obtain ⟨e, he, q⟩ := List.mem_filterMap.mp m
      exact nfr (List.mem_filterMap.mpr ⟨e, List.mem_cons_of_mem _ he, q⟩)
    have newI : sI.heap.get? a = none := by
      cases q : sI.heap.get? a with
      | none => rfl
      | some u =>
        have k := gr a u q (by rw [hs]; exact nfr)
        rw [fly1.2.1] at k
        cases k
    have new0 : X.s_0.heap.get? a = none := by
      cases q : X.s_0.heap.get? a with
      | none => rfl
      | some u =>
        obtain ⟨u', k⟩ := J.base.there a u q (by rw [hx0]; simp)
        rw [newI] at k
        cases k
    have pne : ∀ p ∈ X.pn ++ pins, p.1 ≠ a := fun p m z => by
      have k := (J.pin p m).1
      rw [z, newI] at k
      cases k
    have J1 : Inv X pins σ1 H1 { s' with heap := g1 } := J.landed gr fly1.1 (up.trans up1) os ag
    have S1 := J1.suite e1 d1 na aL aF
    refine wpAny_handleBy_cons (codeAny_handlers_test ?_) (fun z => by cases z)
    have kindOf : PySem.W.Looks (model X.prog X.w) g1 (typeOf (.ref a)) cls := fun A Q E s k q => wpAny_typeOf_ref (k _ _ e1) (by rw [z1.1]; exact q)
    have hit := PySem.W.exm_one (M := model X.prog X.w) S1.kIn kindOf hm
    have named : ∀ {Q E : Value → Shared → Prop}, Q c { s' with heap := g1 } → wpAny (model X.prog X.w) (X.A.mark (some (.ref a))) (eval (.Name x np) X.env) Q E { s' with heap := g1 } := fun {Q E} q => by
      obtain ⟨gl, dbg, q1 | ⟨q1, q2, q3⟩⟩ := hc
      · exact ld_glob (X := X.suite a ((a, o1) :: (X.pn ++ pins))) S1 gl q1 q dbg
      · exact ld_blt (X := X.suite a ((a, o1) :: (X.pn ++ pins))) S1 gl q1 q2 q q3 dbg
    refine named (hit.here ?_)
    match b, yes, no with
    | true, yes, _ =>
      obtain ⟨dd, rfl, wish⟩ := yes rfl
      refine codeAny_handlers_suite_as (HandSPX.lands_againZ fly1 fun g2 fly2 up2 => ?_)
      obtain ⟨o2, w2, e2, z2, d2⟩ := fly2.there
      have J2 : Inv X pins σ1 H1 { s' with heap := g2 } := J.landed gr fly2.1 ((up.trans up1).trans up2) os ag
      have S2 := J2.suite e2 d2 na aL aF
      refine store_ok (X := X.suite a ((a, o2) :: (X.pn ++ pins))) (v := .ref a) S2 hN hi (.inl hln) rfl (fun t5 S5 => ?_) (.inr hln)
      have step : PS (X.suite a ((a, o2) :: (X.pn ++ pins))) (.Assign [.Name y p1] (.Name n p2) pa) (tAsg (tVar i) (gName j)) := ps_asg (pe_var hi (.inl hln) hdn hcn) (pg_name hN hj (.inl hly) (.inr hly)) hsw hsv has
      have li : i < σ1.length := by rw [J.len]; exact (List.getElem?_eq_some_iff.mp hi).1
      have pre : tAsg (tVar i) (gName j) { nx := fun τ K => τ = ((σ1.set i (some (.ref a))).set j (some (.ref a))) ∧ K = H1, rt := fun _ _ => False } (σ1.set i (some (.ref a))) H1 := ⟨.ref a, by rw [List.getElem?_set, if_pos rfl, if_pos li], rfl, rfl⟩
      refine wpAny_mono ((pss_one step).run [] t5 _ H1 _ S5 pre) (fun f t6 hsp => ?_) fun _ _ z => z.elim
      have hsp : SP (X.suite a ((a, o2) :: (X.pn ++ pins))) [] { nx := fun τ K => τ = ((σ1.set i (some (.ref a))).set j (some (.ref a))) ∧ K = H1, rt := fun _ _ => False } f t6 := hsp
      cases f with
      | next =>
        obtain ⟨τ, K, S6, q1, q2⟩ := hsp
        subst q1 q2
        have k := S6.pin (a, o2) (by simp)
        have J6 := S6.unsuite ok
        have J7 := inv_track (o := ExcH a cls dd) J6 new0 k.2.1 aL k.1 d2 pne ⟨⟨o2, w2, k.1, z2.1, z2.2, d2⟩, ⟨o2, k.1⟩, fun g g' ⟨o, v, r1, r2⟩ kk => ⟨o, v, kk o r1, r2⟩⟩
        have last := gone_ok (pos := pos') (M := model X.prog X.w) (A := X.A) (E := X.xe) (Q := fun _ s7 => SP X pins D .next s7) J7 hN hi hln fun t7 J8 => ⟨_, _, J8, wish a k.2.1⟩
        exact last
      | brk => obtain ⟨_, _, _, q⟩ := hsp; exact q.elim
      | cont => obtain ⟨_, _, _, q⟩ := hsp; exact q.elim
      | ret u => obtain ⟨_, _, _, _, _, q⟩ := hsp; exact q.elim
    | false, _, no =>
      show wpAny _ X.A (handleBy (.ref a) X.env []) (SP X pins D) X.xe _
      refine wpAny_handleBy_nil ?_
      obtain ⟨b1, b2, b3, oe, w, TT, oT, tw, q1, q2, q3, q4, q5⟩ := id fly1
      have up_again : wpAny (model X.prog X.w) X.A (setFlight (.ref a) X.env.frame) (fun _ t4 => wpAny (model X.prog X.w) X.A (throw (.ref a) : Sem Flow) (SP X pins D) X.xe t4) X.xe { s' with heap := g1 } := by
        rw [hf]
        refine HandSPX.setFlight_upZ fly1 fun g4 held up4 => wpAny_throw (tk _ _ ⟨a, B, sI, pins, σ1, H1, cls, d, rfl, J, gr, (up.trans up1).trans up4, .inr (.inr ?_), na, os, ag, no rfl⟩)
        rw [hs]
        exact held
      have tn : (Value.ref TT == Value.none) = false := by simp
      refine wpAny_bind (wpAny_field q1 q3 q4 ?_)
      rw [tn, if_neg Bool.false_ne_true]
      first
        | exact wpAny_bind (wpAny_pure (wpAny_bind up_again))
        | exact wpAny_bind up_again
end
end Vm
end

section
/-! V43: try: body / except X as n: y = n, as a statement of the little language. -/
namespace Vm
open PySem L2 PySem.Spec PyProof.Rows
theorem EnvR.put {T : Tb} {F : Hp} {ι : Nat → Addr} {n i : Nat} {σ : L2.St} {env : Vm.Env} {v : Val} {x : V} (E : EnvR T F ι n σ env) (r : VRel T F ι n v x) : EnvR T F ι n (σ.set i (some x)) (env.set i (some v)) := ((E.w (rem := [i])).step r).r
theorem EnvR.drop {T : Tb} {F : Hp} {ι : Nat → Addr} {n i : Nat} {σ : L2.St} {env : Vm.Env} (E : EnvR T F ι n σ env) : EnvR T F ι n (σ.set i none) (env.set i none) := by
  refine ⟨by rw [List.length_set, List.length_set]; exact E.len, fun k v q => ?_⟩
  rw [List.getElem?_set] at q
  split at q
  · split at q <;> cases q
  · rename_i h
    obtain ⟨x, h1, h2⟩ := E.at_ k v q
    exact ⟨x, by rw [List.getElem?_set, if_neg h]; exact h1, h2⟩
section
variable {X : Cx} {T : Tb} {W : L2.WX} {Kt : Kit} {fl : Nat → List Str} {x n y : Str} {c : Value} {i j k : Nat} {body : List Stmt} {np p1 p2 pa pos pos' : Pos} {m : Sm}
theorem ds_try (hx0 : X.ex = []) (hs : X.stack = X.env :: X.outer) (hf : X.env.frame = some X.env.locals) (hN : X.N.Nodup) (hi : X.N[i]? = some n) (hj : X.N[j]? = some y) (hln : X.env.kindOf n = some .local) (hly : X.env.kindOf y = some .local) (hc : Names X x c) (tk : Takes X W)
    (hdn : (n == ("__debug__" : Str)) = false) (hcn : (n == ("__classdict__" : Str)) = false) (hK : T.K = X.K) (hsub : ∀ c', PySem.W.exmOne X.K (.ref (T.exA c')) c = some (Kt.sub c' k))
    (hsw : swapsWithSole [.Name y p1] (.Name n p2) pa.line X.env = pure false) (hsv : swappedStores [.Name y p1] (.Name n p2) X.env = pure none) (has : (assignEach [.Name y p1] X.env).map (·.2) = [assign (.Name y p1) X.env])
    (hb : ∀ (W' : L2.WX) (pn : List (Addr × Obj)) (xe : Value → Shared → Prop), Takes (X.tr pn xe) W' → PassesOwn (model X.prog X.w) X.A X.env xe → DSs (X.tr pn xe) T W' body (execS Kt fl m)) :
    DS X T W (.Try body [.ExceptHandler (some (.Name x np)) (some n) [.Assign [.Name y p1] (.Name n p2) pa] pos'] [] [] pos) (execS Kt fl (.tr m k (some i) (.asg (.n j) (.var i)))) := by
  refine ps_imp (ps_try_keep hx0 hs hf hN hi hj hln hly hc tk hdn hcn hsw hsv has hb) fun D σ H ⟨F, ι, env, st, S, E, p⟩ => ⟨F, ι, env, st, S, E, ?_⟩
  rw [execS] at p
  cases e : execS Kt fl m env st with
  | nx e1 s1 => rw [e] at p; exact p
  | rt v s1 => rw [e] at p; exact p
  | bk e1 s1 => rw [e] at p; exact p
  | ct e1 s1 => rw [e] at p; exact p
  | no => rw [e] at p; exact p
  | er c' fs e1 s1 =>
    rw [e] at p
    intro F' ι' H' σ' cls d N hn S' E' R
    obtain ⟨rcl, dd, gs, rfl, hd, hg⟩ := R
    subst rcl
    refine ⟨Kt.sub c' k, hsub c', fun hb => ⟨dd, rfl, fun a ha => ?_⟩, fun hb => ?_⟩
    · simp only [hb, if_true] at p
      rw [execS, evalX] at p
      by_cases hlt : i < e1.length
      · rw [List.getElem?_set, if_pos rfl, if_pos hlt] at p
        simp only [R.fl_ok] at p
        have fx : FX F' H' (upd F' a (ExcH a (.ref (T.exA c')) dd)) (upd H' a (ExcH a (.ref (T.exA c')) dd)) := FX.one ha S'.sub
        have rx : VRel T (upd F' a (ExcH a (.ref (T.exA c')) dd)) ι' s1.length (.x c' fs) (.ref a) := .x (upd_same) (fx.f _ _ hd) (hg.mono fx.subF)
        exact p _ ι' _ _ (N.trans (fx.next (ι := ι') (n := s1.length)) hn) hn (S'.fx fx) (((E'.up fx.next (Nat.le_refl _)).put rx).put rx).drop
      · rw [List.getElem?_set, if_pos rfl, if_neg hlt] at p
        exact p.elim
    · simp only [hb] at p
      exact p F' ι' H' σ' _ _ N hn S' E' ⟨rfl, dd, gs, rfl, hd, hg⟩
end
section
variable {X : Cx} {T : Tb} {W : L2.WX} {Kt : Kit} {fl : Nat → List Str} {body : List Stmt} {pos : Pos} {m : Sm} {h0 : ExceptHandler} {hh : List ExceptHandler}
/-- try: a body that raises nothing -/
theorem ds_trn (hb : ∀ (pn : List (Addr × Obj)) (xe : Value → Shared → Prop), L2.Takes (X.tr pn xe) W0 → PassesOwn (model X.prog X.w) X.A X.env xe → DSs (X.tr pn xe) T W0 body (execS Kt fl m)) :
    DS X T W (.Try body (h0 :: hh) [] [] pos) (execS Kt fl (.trn m)) := by
  refine ⟨fun pins s σ H D I ⟨F, ι, env, st, S, E, p⟩ => wpAny_Try_except ?_⟩
  have ok := I.ok
  have q : PostS T W0 F ι st.length (execS Kt fl m env st) D := by
    rw [execS] at p
    revert p
    cases execS Kt fl m env st with
    | er c fs e1 s1 => exact fun p => p.elim
    | nx e1 s1 => exact fun p => p
    | rt v s1 => exact fun p => p
    | bk e1 s1 => exact fun p => p
    | ct e1 s1 => exact fun p => p
    | no => exact fun p => p
  have run := (hb (X.pn ++ pins) (fun e t1 => wpAny (model X.prog X.w) X.A (noteFrame e X.env) (fun _ t2 => wpAny (model X.prog X.w) X.A (setFlight e none) (fun _ t3 =>
    wpAny (model X.prog X.w) X.A (handleBy e X.env (h0 :: hh)) (SP X pins D) X.xe t3) X.xe t2) X.xe t1) L2.takes0 PassesOwn.looking).run [] s σ H D (I.toTry _) ⟨F, ι, env, st, S, E, q⟩
  refine wpAny_mono run (fun f t hsp => ?_) fun _ _ z => z
  match f, hsp with
  | .next, ⟨σ1, H1, J, q⟩ => exact wpAny_execs_nil ⟨σ1, H1, J.ofTry ok, q⟩
  | .brk, ⟨σ1, H1, J, q⟩ => exact ⟨σ1, H1, J.ofTry ok, q⟩
  | .cont, ⟨σ1, H1, J, q⟩ => exact ⟨σ1, H1, J.ofTry ok, q⟩
  | .ret u, ⟨v, σ1, H1, J, r, q⟩ => exact ⟨v, σ1, H1, J.ofTry ok, r, q⟩
end
end Vm
end

section
/-! V44: raise C(e, ..). -/
namespace Vm
open PySem L2 PySem.Spec PyProof.Rows
theorem FldR.zip {K : PySem.W.Frag} {F : Hp} : ∀ {ns : List Str} {vs : List V} {ds : List PyData}, DatL K F vs ds → FldR K F (ns.zip vs) (ns.zip ds)
  | [], _, _, _ => by simp; exact .nil
  | _ :: _, _, _, .nil => .nil
  | _ :: _, _, _, .cons h1 h2 => .cons h1 (FldR.zip h2)
theorem FldR.app {K : PySem.W.Frag} {F : Hp} : ∀ {vs ws : List (Str × V)} {ds es : List (Str × PyData)}, FldR K F vs ds → FldR K F ws es → FldR K F (vs ++ ws) (ds ++ es)
  | _, _, _, _, .nil, h => h
  | _, _, _, _, .cons h1 h2, h => .cons h1 (FldR.app h2 h)
theorem FldR.rev {K : PySem.W.Frag} {F : Hp} : ∀ {vs : List (Str × V)} {ds : List (Str × PyData)}, FldR K F vs ds → FldR K F vs.reverse ds.reverse
  | _, _, .nil => .nil
  | _, _, .cons h1 h2 => by
    rw [List.reverse_cons, List.reverse_cons]
    exact (FldR.rev h2).app (.cons h1 .nil)
theorem DatL.len {K : PySem.W.Frag} {F : Hp} : ∀ {vs : List V} {ds : List PyData}, DatL K F vs ds → vs.length = ds.length
  | _, _, .nil => rfl
  | _, _, .cons _ h => by simp [DatL.len h]
/-- C(e, ..): its class, its own dict -/
def tNewX (T : Tb) (fl : Nat → List Str) (c : Nat) (ta : TA) : L2.St → Hp → XK → Prop := fun σ H Q => ta σ H fun vs H1 => vs.length = (fl c).length ∧ ∀ d, H1 d = none → Q (.ref (T.exA c)) (some d) (upd H1 d (.xd ((fl c).zip vs).reverse))
section
variable {X : Cx} {T : Tb} {W : L2.WX} {Kt : Kit} {fl : Nat → List Str} {c : Nat} {es : Ex} {e : Expr} {pos : Pos}
theorem ds_rse (hc : X.calm = true) (tk : Takes X W) (hmk : PMk X e (tNewX T fl c (tEvG (RL T) T W (evalL Kt es)))) : DS X T W (.Raise (some e) none pos) (execS Kt fl (.rse c es)) :=
  ps_imp (ps_raise hc tk hmk) fun D σ H ⟨F, ι, env, st, S, E, p⟩ => by
    rw [execS] at p
    refine ev_go (f := evalL Kt es) S E ((fl_bind (RA := RL T) E p).imp fun vs H1 ⟨F1, ι1, ws, st1, M, E1, q⟩ => ?_)
    cases q1 : unPs ws with
    | none => simp only [q1] at q; exact q.elim
    | some ds =>
      simp only [q1] at q
      have dl := M.rel.pure q1
      cases q2 : excFs c fl ds with
      | none => simp only [q2] at q; exact q.elim
      | some fs =>
        simp only [q2] at q
        unfold excFs at q2
        split at q2
        · rename_i hl
          cases q2
          refine ⟨by rw [DatL.len dl, hl], fun d hd => ?_⟩
          have fx : FX F1 H1 (upd F1 d (.xd ((fl c).zip vs).reverse)) (upd H1 d (.xd ((fl c).zip vs).reverse)) := FX.one hd M.sim.sub
          exact q _ ι1 _ _ _ _ fx.next (Nat.le_refl _) (M.sim.fx fx) (E1.up fx.next (Nat.le_refl _)) ⟨rfl, d, _, rfl, upd_same, (FldR.zip (dl.up fx.subF)).rev⟩
        · cases q2
end
end Vm
end

section
/-! V45: how an error of the program is made. -/
namespace Vm
open PySem L2 PySem.Spec PyProof.Rows
section
variable {X : Cx} {B : Str} {C0 : Addr} {mc : Value} {e : Expr} {es : List Expr} {ta : TA} {p1 p2 pos : Pos}
/-- Base.__init__(self, ..), Base an own class without an __init__ of its own -/
theorem pe_base0 {pl : Sem Bool} (hg : Gl X B) (hm : X.mg B = some (.ref C0)) (hdb : (B == ("__debug__" : Str)) = false) (h1 : PySem.W.specialIn X.K (.ref C0) "__getattribute__" = some (some (.builtin "type.__getattribute__"))) (h2 : PySem.W.typeIn X.K (.ref C0) = some mc) (h3 : PySem.W.readsIn X.K C0 mc = true)
    (h4 : PySem.W.findCls X.K (.ref C0) mc "__init__" = some (.val (.builtin "ValueError.__init__"))) (ha : PA X (e :: es) ta)
    (hc : eval (.Call (.Attribute (.Name B p1) "__init__" p2) (e :: es) [] pos) X.env = (do
      let ov ← eval (.Name B p1) X.env
      standAt p2.atName
      let (f, first) ← holding [ov] (getMethod ov "__init__" pl)
      callWith pos f first (backTo pos (starEach (e :: es) X.env)) (backToKw pos (keywordEach [] X.env))))
    (he : starEach (e :: es) X.env = (false, eval e X.env) :: starEach es X.env) (hpl : (backTo pos (starEach es X.env)).any (·.1) = false) :
    PE X (.Call (.Attribute (.Name B p1) "__init__" p2) (e :: es) [] pos) (tVeI X.K ta) := by
  refine ⟨fun pins s σ H Q I h => PySem.W.methodCall_KW (ld_glob I hg hm ?_ hdb) hc⟩
  obtain ⟨m, fr⟩ := I.fr
  refine PySem.W.method_of_cls fr I.ok.mod.kin h1 (PySem.W.cls_val fr I.ok.mod.kin h2 h3 h4 (by decide +kernel) ?_)
  show wpAny _ _ (callWith pos (Value.builtin "ValueError.__init__") [] (backTo pos (starEach (e :: es) X.env)) []) _ _ _
  refine callWith_method1 (thn (ha.run pos pins _ σ H _ (I.tok _) h) fun us t ⟨vs, H1, J, r, a, C, ws, q1, q2, q3, q4, q5⟩ => ?_) he hpl
  subst q1
  cases r with
  | @cons _ u _ ur ra rw' =>
    obtain rfl : u = Value.ref a := ra
    exact oinit_ok q3 J q4 (by rw [← Paired.length rw', sizeLine_eq]; omega) fun s' J' => ⟨.non, H1, J', rfl, q5⟩
variable {CX : CXT} {k : Nat} {f : Addr} {fd : FuncData} {ps : List Str} {sp : Sp} {E : L2.St → XK}
/-- Base.__init__(self, ..), Base an own class with an __init__ that keeps sp -/
theorem pe_base1 {pl : Sem Bool} (F : FnOk X.prog X.w X.K X.mg X.base CX k f fd ps sp) (hr : Room k X.A) (hb : Binds X.K fd ps []) (hx : ∀ σ, PassesAt CX X σ (E σ)) (kp : PySem.W.keepIn X.K (.ref f) = true)
    (hg : Gl X B) (hm : X.mg B = some (.ref C0)) (hdb : (B == ("__debug__" : Str)) = false) (h1 : PySem.W.specialIn X.K (.ref C0) "__getattribute__" = some (some (.builtin "type.__getattribute__"))) (h2 : PySem.W.typeIn X.K (.ref C0) = some mc) (h3 : PySem.W.readsIn X.K C0 mc = true)
    (h4 : PySem.W.findCls X.K (.ref C0) mc "__init__" = some (.val (.ref f))) (hh : PySem.W.handedIn (.ref f) = true) (ha : PA X (e :: es) ta)
    (hc : eval (.Call (.Attribute (.Name B p1) "__init__" p2) (e :: es) [] pos) X.env = (do
      let ov ← eval (.Name B p1) X.env
      standAt p2.atName
      let (f, first) ← holding [ov] (getMethod ov "__init__" pl)
      callWith pos f first (backTo pos (starEach (e :: es) X.env)) (backToKw pos (keywordEach [] X.env))))
    (he : starEach (e :: es) X.env = (false, eval e X.env) :: starEach es X.env) (hpl : (backTo pos (starEach es X.env)).any (·.1) = false) :
    PE X (.Call (.Attribute (.Name B p1) "__init__" p2) (e :: es) [] pos) (tCallS sp E ta) := by
  refine ⟨fun pins s σ H Q I h => PySem.W.methodCall_KW (ld_glob I hg hm ?_ hdb) hc⟩
  obtain ⟨m, fr⟩ := I.fr
  refine PySem.W.method_of_cls fr I.ok.mod.kin h1 (PySem.W.cls_val fr I.ok.mod.kin h2 h3 h4 hh ?_)
  show wpAny _ _ (callWith pos (Value.ref f) [] (backTo pos (starEach (e :: es) X.env)) []) _ _ _
  exact PySem.W.callWith_K (h₀ := X.base) I.ok.mod.kin kp (thn (ha.run pos pins _ σ H _ (I.tok _) h) fun us t ⟨vs, H1, J, r, q⟩ => ⟨J.kIn, run_fnS F hr hb (hx σ) J r q⟩) he hpl
end
end Vm
end

section
/-! W5: the __init__ of the errors; what C(e, ..) makes. -/
namespace Vm
open PySem L2 PySem.Spec PyProof.Rows
/-- the promise of an error's __init__: fs its fields, in the order of its parameters -/
def spInit (K : PySem.W.Frag) (fs : List Str) : Sp := fun vs H Q _ => ∃ (a C : Addr) (xs : List V), vs = .ref a :: xs ∧ xs.length = fs.length ∧ fs.length ≤ 800 ∧ OexC K C ∧ (∀ f ∈ fs, PySem.W.findIn K (.ref C) f = some none) ∧ H a = some (exo a C none) ∧
  ∀ d, H d = none → d ≠ a → Q .non (upd (upd H d (exd d (fs.zip xs).reverse)) a (exo a C (some d)))
/-- what Base.__init__ stands for -/
structure BaseF (K : PySem.W.Frag) (C0 : Addr) (r : Value) (mc : Value) : Prop where
  h1 : PySem.W.specialIn K (.ref C0) "__getattribute__" = some (some (.builtin "type.__getattribute__"))
  h2 : PySem.W.typeIn K (.ref C0) = some mc
  h3 : PySem.W.readsIn K C0 mc = true
  h4 : PySem.W.findCls K (.ref C0) mc "__init__" = some (.val r)
def nmOk (x : Str) : Bool := !(x == ("__debug__" : Str)) && !(x == ("__classdict__" : Str))
theorem nmOk_1 {x : Str} (h : nmOk x = true) : (x == ("__debug__" : Str)) = false := by
  unfold nmOk at h
  simp only [Bool.and_eq_true, Bool.not_eq_true'] at h
  exact h.1
theorem nmOk_2 {x : Str} (h : nmOk x = true) : (x == ("__classdict__" : Str)) = false := by
  unfold nmOk at h
  simp only [Bool.and_eq_true, Bool.not_eq_true'] at h
  exact h.2
/-- o.name(..), written on one line -/
theorem call_eq {o : Expr} {name : Str} {apos pos : Pos} {args : List Expr} {env : PySem.Env} (hb : attributeBase o name env (eval o env) = eval o env) (hl : (apos.endLine == pos.line) = true)
    (hf : methodCallForm (args.length + 0) (backTo pos (starEach args env)) [] = true) :
    eval (.Call (.Attribute o name apos) args [] pos) env = (do
      let ov ← eval o env
      standAt apos.atName
      let (f, first) ← holding [ov] (getMethod ov name (do return (← importBound o env).getD true))
      callWith pos f first (backTo pos (starEach args env)) (backToKw pos (keywordEach [] env))) := by
  have e1 : eval (.Call (.Attribute o name apos) args [] pos) env = (do
      let ov ← attributeBase o name env (eval o env)
      standAt apos.atName
      methodCall o name apos pos env ov (args.length + ([] : List Keyword).length) (backTo pos (starEach args env)) (backToKw pos (keywordEach [] env))) := rfl
  rw [e1, hb]
  have hf2 : methodCallForm (args.length + ([] : List Keyword).length) (backTo pos (starEach args env)) (backToKw pos (keywordEach [] env)) = true := hf
  have e2 : ∀ ov, methodCall o name apos pos env ov (args.length + ([] : List Keyword).length) (backTo pos (starEach args env)) (backToKw pos (keywordEach [] env)) = (do
      let (f, first) ← holding [ov] (getMethod ov name (do return (← importBound o env).getD true))
      callWith pos f first (backTo pos (starEach args env)) (backToKw pos (keywordEach [] env))) := fun ov => by
    unfold methodCall calleeOf methodCallPos
    rw [hf2]
    simp only [hl, Bool.not_true, Bool.false_or, if_true, pure_bind]
  simp only [e2]
def glN (sc : Scope) (x : Str) : Prop := sc.names.lookup x = some .globalImplicit
section
variable {P : Program} {w : World} {K : PySem.W.Frag} {mg : Str → Option Value} {base : Heap} {CX : CXT} {x qual s q r b f g m : Str} {params : Arguments} {scope : Scope} {fI C0 fB : Addr} {fd fdB : FuncData} {psB : List Str} {mc : Value} {k j : Nat} {p1 p2 p3 p4 p5 p6 p7 p8 p9 p10 : Pos} {fsB : List Str}
/-- Base.__init__(self, 'text'); self.f = q -/
theorem init_A (F : FunD K x qual params [.Expr (.Call (.Attribute (.Name b p1) "__init__" p2) [.Name s p3, .Constant (.str m) j p4] [] p5) p6, .Assign [.Attribute (.Name s p7) f p8] (.Name q p9) p10] scope [] [] fI fd)
    (hl0 : (p2.endLine == p5.line) = true) (S : FnScope [s, q] [s, q] scope) (hs : Vis scope s) (hq : Vis scope q) (ns : nmOk s = true) (nq : nmOk q = true) (hg : glN scope b) (nb : nmOk b = true) (hm : mg b = some (.ref C0)) (B : BaseF K C0 (.builtin "ValueError.__init__") mc) :
    FnOk P w K mg base CX (k + 1) fI fd [s, q] (spInit K [f]) := by
  refine F.ok S (fun vs H Q E h => ?_) fun cdv A outer s0 H vs Q E hr h => ?_
  · obtain ⟨a, C, xs, rfl, hl, _⟩ := h
    simp [hl]
  obtain ⟨a, C, xs, rfl, hl, hz, T, hno, ha, q0⟩ := h
  match xs, hl with
  | [y], _ =>
    refine ⟨_, pss_cons (ps_expr (pe_base0 (show Gl (cxOf CX P w K mg base [s, q] qual scope fI cdv A outer s0 H E) b from hg) hm (nmOk_1 nb) B.h1 B.h2 B.h3 B.h4 (pa_cons (pe_var (i := 0) rfl hs (nmOk_1 ns) (nmOk_2 ns)) (pa_cons pe_str pa_nil)) (call_eq (by rfl) hl0 (by rfl)) (by rfl) (by rfl)) (by rfl))
      (pss_one (ps_ost (pe_var (i := 0) rfl hs (nmOk_1 ns) (nmOk_2 ns)) (pe_var (i := 1) rfl hq (nmOk_1 nq) (nmOk_2 nq)))), ?_⟩
    refine ⟨.ref a, rfl, ?_⟩
    refine ⟨a, C, [.str m], rfl, by simp, T, ha, ?_⟩
    refine ⟨y, rfl, .ref a, rfl, a, C, rfl, T, hno f (by simp), .inl ⟨ha, fun d h1 h2 => q0 d h1 h2⟩⟩
/-- Base.__init__(self, q), Base an own class with an __init__ -/
theorem init_B0 (F : FunD K x qual params [.Expr (.Call (.Attribute (.Name b p1) "__init__" p2) [.Name s p3, .Name q p4] [] p5) p6] scope [] [] fI fd)
    (hl0 : (p2.endLine == p5.line) = true) (S : FnScope [s, q] [s, q] scope) (hs : Vis scope s) (hq : Vis scope q) (ns : nmOk s = true) (nq : nmOk q = true) (hg : glN scope b) (nb : nmOk b = true) (hm : mg b = some (.ref C0)) (B : BaseF K C0 (.ref fB) mc)
    (FB : FnOk P w K mg base C8.CX0 k fB fdB psB (spInit K [g])) (hb : Binds K fdB psB []) (kp : PySem.W.keepIn K (.ref fB) = true) :
    FnOk P w K mg base CX (k + 1) fI fd [s, q] (spInit K [g]) := by
  refine F.ok S (fun vs H Q E h => ?_) fun cdv A outer s0 H vs Q E hr h => ?_
  · obtain ⟨a, C, xs, rfl, hl, _⟩ := h
    simp [hl]
  obtain ⟨a, C, xs, rfl, hl, hz, T, hno, ha, q0⟩ := h
  match xs, hl with
  | [y], _ =>
    refine ⟨_, pss_one (ps_expr (pe_base1 (X := cxOf CX P w K mg base [s, q] qual scope fI cdv A outer s0 H E) (E := fun _ _ _ _ => False) FB hr hb (fun σ _ _ _ _ _ _ z => z.elim) kp hg hm (nmOk_1 nb) B.h1 B.h2 B.h3 B.h4 rfl (pa_cons (pe_var (i := 0) rfl hs (nmOk_1 ns) (nmOk_2 ns)) (pa_cons (pe_var (i := 1) rfl hq (nmOk_1 nq) (nmOk_2 nq)) pa_nil)) (call_eq (by rfl) hl0 (by rfl)) (by rfl) (by rfl)) (by rfl)), ?_⟩
    refine ⟨.ref a, rfl, y, rfl, a, C, [y], rfl, rfl, hz, T, hno, ha, fun d h1 h2 => q0 d h1 h2⟩
/-- Base.__init__(self, q); self.f = r, Base an own class with an __init__ -/
theorem init_B1 (F : FunD K x qual params [.Expr (.Call (.Attribute (.Name b p1) "__init__" p2) [.Name s p3, .Name q p4] [] p5) p6, .Assign [.Attribute (.Name s p7) f p8] (.Name r p9) p10] scope [] [] fI fd)
    (hl0 : (p2.endLine == p5.line) = true) (S : FnScope [s, q, r] [s, q, r] scope) (hs : Vis scope s) (hq : Vis scope q) (hr0 : Vis scope r) (ns : nmOk s = true) (nq : nmOk q = true) (nr : nmOk r = true) (hg : glN scope b) (nb : nmOk b = true) (hm : mg b = some (.ref C0)) (B : BaseF K C0 (.ref fB) mc)
    (FB : FnOk P w K mg base C8.CX0 k fB fdB psB (spInit K [g])) (hb : Binds K fdB psB []) (kp : PySem.W.keepIn K (.ref fB) = true) :
    FnOk P w K mg base CX (k + 1) fI fd [s, q, r] (spInit K [g, f]) := by
  refine F.ok S (fun vs H Q E h => ?_) fun cdv A outer s0 H vs Q E hr h => ?_
  · obtain ⟨a, C, xs, rfl, hl, _⟩ := h
    simp [hl]
  obtain ⟨a, C, xs, rfl, hl, hz, T, hno, ha, q0⟩ := h
  match xs, hl with
  | [y, z], _ =>
    refine ⟨_, pss_cons (ps_expr (pe_base1 (X := cxOf CX P w K mg base [s, q, r] qual scope fI cdv A outer s0 H E) (E := fun _ _ _ _ => False) FB hr hb (fun σ _ _ _ _ _ _ z => z.elim) kp hg hm (nmOk_1 nb) B.h1 B.h2 B.h3 B.h4 rfl (pa_cons (pe_var (i := 0) rfl hs (nmOk_1 ns) (nmOk_2 ns)) (pa_cons (pe_var (i := 1) rfl hq (nmOk_1 nq) (nmOk_2 nq)) pa_nil)) (call_eq (by rfl) hl0 (by rfl)) (by rfl) (by rfl)) (by rfl))
      (pss_one (ps_ost (pe_var (i := 0) rfl hs (nmOk_1 ns) (nmOk_2 ns)) (pe_var (i := 2) rfl hr0 (nmOk_1 nr) (nmOk_2 nr)))), ?_⟩
    refine ⟨.ref a, rfl, y, rfl, a, C, [y], rfl, rfl, by simp, T, fun f' hf => hno f' (by simp at hf ⊢; exact .inl hf), ha, fun d h1 h2 => ?_⟩
    refine ⟨z, rfl, .ref a, rfl, a, C, rfl, T, hno f (by simp), .inr ⟨d, [(g, y)], upd_same, ?_, by simp, ?_⟩⟩
    · rw [upd_ne h2, upd_same]
      rfl
    · have e : upd (upd (upd H d (exd d ([g].zip [y]).reverse)) a (exo a C (some d))) d (exd d ((f, z) :: [(g, y)])) = upd (upd H d (exd d ([g, f].zip [y, z]).reverse)) a (exo a C (some d)) := by
        funext c
        by_cases c1 : c = d
        · subst c1
          rw [upd_same, upd_ne h2, upd_same]
          rfl
        · rw [upd_ne c1]
          by_cases c2 : c = a
          · subst c2
            rw [upd_same, upd_same]
          · rw [upd_ne c2, upd_ne c2, upd_ne c1, upd_ne c1]
      show Q .non _
      rw [e]
      exact q0 d h1 h2
end
section
variable {X : Cx} {T : Tb} {fl : Nat → List Str} {c : Nat} {ta : TA} {e : Expr} {es : List Expr} {p pos : Pos}
/-- C(e, ..) -/
theorem pmk_new {x : Str} {fI : Addr} {k : Nat} {fd : FuncData} {ps : List Str} (O : OexC X.K (T.exA c)) (iC : PySem.W.findIn X.K (.ref (T.exA c)) "__init__" = some (some (.ref fI))) (tI : PySem.W.typeIn X.K (.ref fI) = some (.type "function"))
    (F1 : FnOk X.prog X.w X.K X.mg X.base C8.CX0 k fI fd ps (spInit X.K (fl c))) (hz : (fl c).length ≤ 800) (hno : ∀ f ∈ fl c, PySem.W.findIn X.K (.ref (T.exA c)) f = some none) (hr : Room (k + 1) X.A) (hb : Binds X.K fd ps []) (hg : Gl X x) (hm : X.mg x = some (.ref (T.exA c))) (ha : PA X (e :: es) ta)
    (mono : ∀ σ H Q Q', ta σ H Q → (∀ vs H, Q vs H → Q' vs H) → ta σ H Q')
    (hdb : (x == ("__debug__" : Str)) = false) (he : starEach (e :: es) X.env = (false, eval e X.env) :: starEach es X.env) (hpl : (backTo pos (starEach es X.env)).any (·.1) = false) :
    PMk X (.Call (.Name x p) (e :: es) [] pos) (tNewX T fl c ta) := by
  have key := pmk_oex (pos := pos) (p := p) O iC tI F1 hr hb (.nil : Vals [] []) C8.pass0 hg hm ha hdb he hpl
  intro pins s σ H Q I h
  refine key pins s σ H Q I (mono _ _ _ _ h fun vs H1 ⟨hl, q⟩ => ⟨by omega, fun a ha => ⟨a, T.exA c, vs, by simp, hl, hz, O, hno, upd_same, fun d h1 h2 => ⟨rfl, d, ((fl c).zip vs).reverse, upd_same, ?_, ?_, ?_⟩⟩⟩)
  · rw [upd_ne h2, upd_same]
  · rw [upd_ne h2] at h1
    exact h1
  · rw [upd_ne h2] at h1
    have e : upd (del (upd (upd (upd H1 a (exo a (T.exA c) none)) d (exd d ((fl c).zip vs).reverse)) a (exo a (T.exA c) (some d))) a) d (.xd ((fl c).zip vs).reverse) = upd H1 d (.xd ((fl c).zip vs).reverse) := by
      funext b
      by_cases c1 : b = d
      · subst c1
        rw [upd_same, upd_same]
      · rw [upd_ne c1, upd_ne c1]
        by_cases c2 : b = a
        · subst c2
          rw [del_same, ha]
        · rw [del_ne c2, upd_ne c2, upd_ne c1, upd_ne c2]
    rw [e]
    exact q d h1
end
end Vm
end

section
/-! W6: err.f; C(e, ..) as a value. -/
namespace Vm
open PySem L2 PySem.Spec PyProof.Rows
/-- err.f of an exception that is kept -/
def tXfH (K : PySem.W.Frag) (n : Str) (te : TE) : TE := fun σ H Q => te σ H fun x H1 => ∃ (a C d : Addr) (fs : List (Str × V)) (v : V), x = .ref a ∧ H1 a = some (ExcH a (.ref C) d) ∧ H1 d = some (.xd fs) ∧ ExcC K C ∧ PySem.W.findIn K (.ref C) n = some none ∧ fs.lookup n = some v ∧ Q v H1
theorem pe_xfh {X : Cx} {e : Expr} {te : TE} {pos : Pos} {n : Str} (he : PE X e te) (hb : attributeBase e n X.env (eval e X.env) = eval e X.env) : PE X (.Attribute e n pos) (tXfH X.K n te) := by
  refine ⟨fun pins s σ H Q I h => ?_⟩
  refine attr_of hb (thn (he.run pins s σ H _ I h) fun u s1 hh => ?_)
  obtain ⟨x, H1, I1, rx, a, C, d, fs, v, ex, ea, ed, T, hno, l, q⟩ := hh
  subst ex
  obtain rfl : u = Value.ref a := rx
  obtain ⟨⟨oe, vs, e1, e2, e3, e4⟩, _, _⟩ := I1.hok a _ ea
  have hx : ObjOk X.prog X.w H1 s1.heap d (.xd fs) := I1.hok d _ ed
  obtain ⟨mA, hns, hr⟩ := hx
  obtain ⟨od, ho, hl⟩ := lookIn_ns hns
  obtain ⟨u, hu, ru⟩ := RelO.some_of (v := v) (o := mA n) (by rw [← l]; exact hr n)
  have J : PySem.W.InstAt s1.heap a oe C (some od) := ⟨e1, e2, by unfold PySem.W.notCls; rw [e4], by rw [e3]; exact ho⟩
  exact HandSPX.exc_get I1.kIn J T.hg T.hk T.hs (PySem.W.findObj_own T.hd hno rfl (by rw [hl, hu])) (handed_of ru) ⟨v, H1, I1.tok _, ru, q⟩
theorem FldR.get {K : PySem.W.Frag} {F : Hp} {n : Str} {d : PyData} : ∀ {fs : List (Str × V)} {ds : List (Str × PyData)}, FldR K F fs ds → ds.lookup n = some d → ∃ v, fs.lookup n = some v ∧ Dat K F v d
  | _, _, .nil, e => by cases e
  | _, _, .cons (f := f) (v := v) (d := d') (vs := vs) (ds := ds) h1 h2, e => by
    rw [List.lookup_cons] at e ⊢
    split at e
    · cases e; exact ⟨v, rfl, h1⟩
    · exact h2.get e
section
variable {X : Cx} {T : Tb} {W : L2.WX} {Kt : Kit} {e : Expr} {pos : Pos} {oc : Nat → Addr}
theorem Sub.ext {F H : Hp} (s : Sub F H) {a : Addr} {φ : Heap → Prop} (h : F a = some (.ext φ)) : H a = some (.ext φ) := by
  rcases s a _ h with h | ⟨⟨_, z⟩ | ⟨_, z⟩, _⟩
  · exact h
  · cases z
  · cases z
theorem Sub.xd {F H : Hp} (s : Sub F H) {a : Addr} {fs : List (Str × V)} (h : F a = some (.xd fs)) : H a = some (.xd fs) := by
  rcases s a _ h with h | ⟨⟨_, z⟩ | ⟨_, z⟩, _⟩
  · exact h
  · cases z
  · cases z
theorem de_fld {a : Ex} {n : Str} (O : OwnK X T Kt oc) (h1 : DE X T W e (evalX Kt a)) (hb : attributeBase e n X.env (eval e X.env) = eval e X.env) : DE X T W (.Attribute e n pos) (evalX Kt (.fld a n)) :=
  de_by fun σ F ι env st H Q S E p => by
    rw [evalX] at p
    refine ⟨_, pe_xfh (pos := pos) h1 hb, tEvG.imp (ev_go S E (PostG.bind (RA := RV T) p)) fun x H1 ⟨F1, ι1, v, st1, M, p1⟩ => ?_⟩
    split at p1
    · rename_i c fs
      split at p1
      · rename_i hc
        obtain ⟨hC, hno⟩ := O.f c n hc
        split at p1
        · rename_i d hd
          have r := M.rel
          cases r with
          | @x ad dd _ gs _ q1 q2 q3 =>
            obtain ⟨y, y1, y2⟩ := q3.get hd
            exact ⟨ad, T.exA c, dd, gs, y, rfl, M.sim.sub.ext q1, M.sim.sub.xd q2, hC, hno, y1, p1.now (Next.refl _ _ _) (Nat.le_refl _) M.sim (.p y2)⟩
        · exact p1.elim
      · exact p1.elim
    · exact p1.elim
end
/-! ### C(e, ..) as a value -/
section
variable {X : Cx} {e : Expr} {t : L2.St → Hp → XK → Prop}
theorem pe_keep (h : PMk X e t) : PE X e (fun σ H Q => t σ H fun cls d H1 => ∃ dd, d = some dd ∧ ∀ a, H1 a = none → Q (.ref a) (upd H1 a (ExcH a cls dd))) := by
  refine ⟨fun pins s σ H Q I q => ?_⟩
  refine wpAny_mono (h pins s σ H _ I q) (fun u s1 hu => ?_) fun _ _ x => x
  obtain ⟨a, oe, vs, sI, H1, cls, d, rfl, J, gs, ga, ho, hz, hd, h1, na, os, bare, hr, dd, rfl, k⟩ := hu
  have new : ObjOk X.prog X.w (upd H1 a (ExcH a cls dd)) s1.heap a (ExcH a cls dd) := ⟨⟨oe, vs, ho, hz.1, hz.2, hd⟩, ⟨oe, ho⟩, fun g g' ⟨o, v, r1, r2⟩ kk => ⟨o, v, kk o r1, r2⟩⟩
  exact ⟨.ref a, upd H1 a (ExcH a cls dd), J.call' (ch := []) os (Un.laidN gs ga na) (J.hok.laidN gs na new) bare (fun b z => absurd z (by simp)), rfl, k a na⟩
end
section
variable {X : Cx} {T : Tb} {W : L2.WX} {Kt : Kit} {e : Expr} {c : Nat} {es : Ex}
theorem de_mkx (hmk : PMk X e (tNewX T Kt.fl c (tEvG (RL T) T W (evalL Kt es)))) : DE X T W e (evalX Kt (.mkx c es)) :=
  de_by fun σ F ι env st H Q S E p => by
    rw [evalX] at p
    refine ⟨_, pe_keep hmk, ?_⟩
    refine tEvG.imp (ev_go S E (PostG.bind (RA := RL T) p)) fun vs H1 ⟨F1, ι1, ws, st1, M, q⟩ => ?_
    unfold mkX at q
    cases q1 : unPs ws with
    | none => simp only [q1] at q; exact q.elim
    | some ds =>
      simp only [q1] at q
      have dl := M.rel.pure q1
      cases q2 : excFs c Kt.fl ds with
      | none => simp only [q2] at q; exact q.elim
      | some fs =>
        simp only [q2, R.of_some] at q
        unfold excFs at q2
        split at q2
        · rename_i hl
          cases q2
          refine ⟨by rw [DatL.len dl, hl], fun d hd => ⟨d, rfl, fun a ha => ?_⟩⟩
          have fx : FX F1 H1 (upd F1 d (.xd ((Kt.fl c).zip vs).reverse)) (upd H1 d (.xd ((Kt.fl c).zip vs).reverse)) := FX.one hd M.sim.sub
          have S2 := M.sim.fx fx
          have fx2 := FX.one (p := a) (o := ExcH a (.ref (T.exA c)) d) ha S2.sub
          refine q.now (fx.next.trans fx2.next (Nat.le_refl _)) (Nat.le_refl _) (S2.fx fx2) (.x upd_same (fx2.f _ _ upd_same) ((FldR.zip ((dl.up fx.subF).up fx2.subF)).rev))
        · cases q2
end
end Vm
end

section
/-! W7: x(lambda: e), where x is a def of the form: err = None; try: [found =] work() / except C as n: err = n; .. -/
namespace Vm
open PySem L2 PySem.Spec PyProof.Rows LamX
theorem Sim.extN {T : Tb} {F H H1 : Hp} {ι : Nat → Addr} {st : Store} (S : Sim T F ι st H) (e : ExtN H H1) (t : Tabs T.tb H1) : Sim T F ι st H1 := by
  refine ⟨fun a o h => ?_, fun k c h => ?_, S.inj, fun a o h => e a o (S.gd a o h) fun ps z => S.nt.2 a ps (z ▸ h), S.gf, fun p hp => ⟨t p hp, (S.tb p hp).2⟩, S.nt⟩
  · rcases S.sub a o h with q | ⟨q, ob, q2⟩
    · exact .inl (e a o q fun ps z => S.nt.1 a ps (z ▸ h))
    · exact .inr ⟨q, ob, e a _ q2 fun ps z => nomatch z⟩
  · have hk : k < st.length := S.idx h
    refine (S.cel k c h).el (Next.refl _ _ _) (Nat.le_refl _) (fun o ho => e _ o ho fun ps z => ?_) fun z => z
    subst z
    cases q : F (ι k) with
    | none => exact (S.kind hk q).1 ps ho
    | some u =>
      rcases S.sub _ _ q with q1 | ⟨_, ob, q1⟩
      · rw [ho] at q1
        cases q1
        exact S.nt.1 _ ps q
      · rw [ho] at q1
        cases q1
section
variable {X : Cx} {pins : List (Addr × Obj)} {σ : L2.St} {H HZ : Hp} {s s1 : Shared} {scope : Scope} {f c' : Addr} {params : Arguments} {body : Expr} {pm ctv : Value} {E : XK} {tb : TE} {Q : VK} {k : Nat}
/-- the code of the lambda that X made, run at s1 from the frames outer -/
theorem lam_run {A : Around} {outer : List PySem.Env} (I : Inv X pins σ H s) (L : LamS X.env.scope scope) (of1 : s1.heap.get? f = some (PySem.W.kla_obj "<lambda>" (X.env.qual ++ "<lambda>") params body scope (cloFrom X.env.cells scope.names []) pm c' ctv))
    (hbind : bindArgs (PySem.W.kla_fn "<lambda>" (X.env.qual ++ "<lambda>") params body scope (cloFrom X.env.cells scope.names []) pm (.ref c') ctv) ⟨[], []⟩ = pure []) (hco : HZ c' = some (CodeO c' (X.env.qual ++ "<lambda>")))
    (z0 : Env0 X.prog X.w X.K X.mg X.base A outer s1 HZ) (lim : s1.heap.NoLimit) (un : Un (frs X.stack) [] H HZ s.heap s1.heap) (rm : Room (k + 1) A)
    (hbody : ∀ (s : Shared) (H : Hp), Room k (A.deeper (lamEnv X scope s.heap.objs.size f c')) → PE (lamCx X A outer s H E scope f c') body tb) (hq : tb σ HZ Q) :
    codeAny (model X.prog X.w) A (.call (.ref f) ⟨[], []⟩) (CR (L2.CX X.prog X.w) outer X.prog X.w HZ s1 Q E) s1 := by
  obtain ⟨⟨ob, vals, tk, e1, e2, e3⟩, _, _⟩ := z0.hok c' _ hco
  refine PySem.W.kla_callFunE rm.depth of1 rfl L.co L.gen rfl ⟨c', ob, vals, tk, rfl, e1, e2, e3⟩ ?_
  rw [hbind]
  refine wpAny_pure (wpAny_newFunctionEnv (fun y m => (L.own y m).2) (fun y m => (List.not_mem_nil m).elim) (fun g hns ext => ⟨lim.fresh _ ext, ?_⟩) L.kind)
  show codeAny _ _ (.expr body (lamEnv X scope s1.heap.objs.size f c')) _ _
  have old : ∀ b o, s1.heap.get? b = some o → g.get? b = some o := fun b o z => ext.extBut b o (Nat.ne_of_lt (Heap.lt_size z)) (Heap.get?_push_of_some _ z)
  have J := lam_start2 (E := E) (f := f) (c' := c') (tk := s1.toks + ([] : List (Str × Value)).length) I L z0 rm.hd un hns old
  have run := (hbody s1 HZ (rm.deeper _)).run [] _ σ HZ Q J hq
  exact PySem.W.kla_codeExpr (wpAny_mono run (fun v s2 ⟨w2, H2, J2, rv, q2⟩ => ⟨w2, H2, J2.os, J2.bare, J2.base, J2.hok, rv, q2⟩) fun _ _ z => z)
/-- work(), in the def that was handed the lambda; what it lets out is wished for at the slots of now -/
theorem pe_wk {Ng : List Str} {qg a : Str} {sg : Scope} {g : Addr} {cdg : Value} {tl : XK → TE} {W : L2.WX} {pn : List (Addr × Obj)} {xe : Value → Shared → Prop} {p1 p2 : Pos}
    (I : Inv X pins σ H s) (L : LamS X.env.scope scope) (hf : s.heap.get? f = some (PySem.W.kla_obj "<lambda>" (X.env.qual ++ "<lambda>") params body scope (cloFrom X.env.cells scope.names []) pm c' ctv)) (hfn : H f = none) (hfr : f ∉ frs X.stack)
    (hbind : bindArgs (PySem.W.kla_fn "<lambda>" (X.env.qual ++ "<lambda>") params body scope (cloFrom X.env.cells scope.names []) pm (.ref c') ctv) ⟨[], []⟩ = pure [])
    (tk : L2.Takes ((cxOf C8.CX0 X.prog X.w X.K X.mg X.base Ng qg sg g cdg X.A X.stack s H C8.E0).tr pn xe) W) (rm : Room (k + 1) (X.A.deeper (envOfC qg sg s.heap.objs.size g cdg)))
    (hbody : ∀ (E : XK) (A : Around) (outer : List PySem.Env) (s : Shared) (H : Hp), A.guards = X.A.guards → Room k (A.deeper (lamEnv X scope s.heap.objs.size f c')) → PE (lamCx X A outer s H E scope f c') body (tl E))
    (hN : Ng[0]? = some a) (hv : Vis sg a) (hd : (a == ("__debug__" : Str)) = false) (hcd : (a == ("__classdict__" : Str)) = false) :
    PE ((cxOf C8.CX0 X.prog X.w X.K X.mg X.base Ng qg sg g cdg X.A X.stack s H C8.E0).tr pn xe) (.Call (.Name a p1) [] [] p2)
      (fun τ G Q => τ[0]? = some (some (.ref f)) ∧ G c' = some (CodeO c' (X.env.qual ++ "<lambda>")) ∧ tl (WE W τ) σ G Q) := by
  refine ⟨fun pz sz τ G Q IZ ⟨q0, q1, q2⟩ => ?_⟩
  refine wpAny_Call_Name_kw (thn ((pe_var (pos := p1) (i := 0) hN hv hd hcd).run pz sz τ G (fun v K => v = .ref f ∧ K = G) IZ ⟨.ref f, q0, rfl, rfl⟩) fun u s2 ⟨v, G2, I2, r2, ev, eG⟩ => ?_)
  subst ev
  subst eG
  cases r2
  have at2 : s2.heap.get? f = some (PySem.W.kla_obj "<lambda>" (X.env.qual ++ "<lambda>") params body scope (cloFrom X.env.cells scope.names []) pm c' ctv) := I2.base.keep f _ hf hfn hfr (fun z => by cases (show f ∈ ([] : List Addr) from z))
  have run := lam_run (X := X) (E := WE W τ) (Q := Q) (A := X.A.deeper (envOfC qg sg s.heap.objs.size g cdg)) (outer := envOfC qg sg s.heap.objs.size g cdg :: X.stack) I L at2 hbind q1 I2.env0 I2.nolimit I2.base rm (fun s H hr => hbody (WE W τ) _ _ s H rfl hr) q2
  refine PySem.W.callWith_F0 ⟨_, _, _, _, at2⟩ (wpAny_call (codeAny_mono run fun r s3 hr => ?_))
  match r, hr with
  | .error e, hr => exact passAt tk τ pz G2 s2 e s3 I2 hr
  | .ok (.ret u), hr => exact I2.after hr
  | .ok .next, hr => exact hr.elim
  | .ok .brk, hr => exact hr.elim
  | .ok .cont, hr => exact hr.elim
end

/-- the def at g, called a's way: TT, what it makes of the lambda's reading -/
def Gives (X : Cx) (k : Nat) (Ng : List Str) (x : Str) (sg : Scope) (g : Addr) (cdg : Value) (bg : List Stmt) (a q : Str) (TT : (XK → Hp → VK → Prop) → Hp → VK → Prop) : Prop :=
  ∀ (f c' : Addr) (s : Shared) (H : Hp) (Q : VK) (tl : XK → Hp → VK → Prop),
    (∀ (W : L2.WX) (pn : List (Addr × Obj)) (xe : Value → Shared → Prop) (p1 p2 : Pos), L2.Takes ((cxOf C8.CX0 X.prog X.w X.K X.mg X.base Ng x sg g cdg X.A X.stack s H C8.E0).tr pn xe) W →
      PE ((cxOf C8.CX0 X.prog X.w X.K X.mg X.base Ng x sg g cdg X.A X.stack s H C8.E0).tr pn xe) (.Call (.Name a p1) [] [] p2) (fun τ G Q => τ[0]? = some (some (.ref f)) ∧ G c' = some (CodeO c' q) ∧ tl (WE W τ) G Q)) →
    H c' = some (CodeO c' q) → TT tl H Q → Room (k + 1) (X.A.deeper (envOfC x sg s.heap.objs.size g cdg)) →
    ∃ t, PSs (cxOf C8.CX0 X.prog X.w X.K X.mg X.base Ng x sg g cdg X.A X.stack s H C8.E0).nox bg t ∧ t { nx := fun _ H' => Q .non H', rt := Q } (L2.start Ng [.ref f]) H
section
variable {X : Cx}
/-- x(lambda: body) -/
theorem pe_lam {TS : List (Addr × Str)} {TT : (XK → Hp → VK → Prop) → Hp → VK → Prop} {x a : Str} {g c P : Addr} {k : Nat} {pg : Arguments} {bg : List Stmt} {sg : Scope} {dV kV doc pm cdv ct oc : Value} {an od : Option Addr} {osl : Array (Option Value)} {Ng : List Str}
    {params : Arguments} {body : Expr} {scope : Scope} {t : XK → TE} {p lpos pos : Pos} (hg : Gl X x) (hm : X.mg x = some (.ref g)) (hk : PySem.W.keepIn X.K (.ref g) = true)
    (lk : X.K.lookup g = some ⟨oc, od, .func (PySem.W.fnOf x x pg bg sg dV kV doc pm an cdv ct), osl⟩) (hcg : PySem.W.codeIn X.K cdv x = true) (hb : L2.Binds X.K (PySem.W.fnOf x x pg bg sg dV kV doc pm an cdv ct) [a] []) (Sg : FnScope Ng [a] sg) (hNg : Ng[0]? = some a) (hva : Vis sg a)
    (hG : Gives X k Ng x sg g cdv bg a (X.env.qual ++ "<lambda>") TT)
    (TB : TabB X.base X.mg c P) (hcode : X.env.code = .ref c) (hmT : (P, X.env.qual ++ "<lambda>") ∈ TS) (hu : ∀ p ∈ TS, p.1 = P → p.2 = X.env.qual ++ "<lambda>") (hr : Room (k + 2) X.A) (L : LamS X.env.scope scope) (hdef : defaultsOf params X.env = ([], []))
    (hbind : ∀ (q : Str) (cl : List (Str × Addr)) (pm cv ctv : Value), bindArgs (PySem.W.kla_fn "<lambda>" q params body scope cl pm cv ctv) ⟨[], []⟩ = pure [])
    (hbody : ∀ (E : XK) (A : Around) (outer : List PySem.Env) (s : Shared) (H : Hp) (f c' : Addr), A.guards = X.A.guards → Room k (A.deeper (lamEnv X scope s.heap.objs.size f c')) → PE (lamCx X A outer s H E scope f c') body (t E))
    (hdb : (x == ("__debug__" : Str)) = false) (hd : (a == ("__debug__" : Str)) = false) (hcd : (a == ("__classdict__" : Str)) = false) :
    PE X (.Call (.Name x p) [.Lambda params body scope lpos] [] pos) (tLam TS TT t) := by
  refine ⟨fun pins s σ H Q I ⟨hT, h⟩ => wpAny_Call_Name_kw (ld_glob I hg hm (PySem.W.callWith_K (h₀ := X.base) I.ok.mod.kin hk ?_ (by rfl) (by rfl)) hdb)⟩
  show wpAny _ _ (spliced ((false, eval (.Lambda params body scope lpos) X.env) :: backTo pos (starEach [] X.env))) _ _ s
  refine Calls.spliced_cons (lam_make2 I TB hcode hmT hu hT hdef (L.has I.ok) fun f c' pm' ctv G s2 J eN T1 hf hfn hfr hco => Calls.spliced_nil ⟨J.kIn, ?_⟩)
  have run : codeAny (model X.prog X.w) X.A (.call (.ref g) ⟨[.ref f], []⟩) (CR C8.CX0 X.stack X.prog X.w G s2 Q C8.E0) s2 := by
    refine run_ofS (N := Ng) (ps := [a]) (us := [.ref f]) (vs := [.ref f]) lk hcg Sg hr J.env0 (hb s2 [.ref f] J.kIn rfl) (.cons rfl .nil) rfl fun rm => ?_
    obtain ⟨u, h1, h2⟩ := hG f c' s2 G Q (fun E K R => t E σ K R) (fun W pn xe p1 p2 tk => pe_wk J L hf hfn hfr (hbind _ _ _ _ _) tk rm (fun E A outer s H hg2 hr2 => hbody E A outer s H f c' hg2 hr2) hNg hva hd hcd) hco (h G eN T1) rm
    exact ⟨u, h1.nox, h2⟩
  refine wpAny_call (codeAny_mono run fun r s3 hr => ?_)
  match r, hr with
  | .error e, hr => exact (show False from hr).elim
  | .ok (.ret u), hr => exact J.after hr
  | .ok .next, hr => exact hr.elim
  | .ok .brk, hr => exact hr.elim
  | .ok .cont, hr => exact hr.elim
end
end Vm
end

section
/-! W8: defs that are handed a lambda. -/
namespace Vm
open PySem L2 PySem.Spec PyProof.Rows LamX
/-- what such a def makes of the lambda -/
def tTry (T : Tb) (P : Pg) (K : Kit) (i : Nat) : (XK → Hp → VK → Prop) → Hp → VK → Prop := fun tl H Q => ∃ F ι st wk, Sim T F ι st H ∧
  (∀ F' ι' st' H' (E : XK) Q', Next F ι st.length F' ι' → st.length ≤ st'.length → Sim T F' ι' st' H' → PostG (RV T) T (fun cls d _ H => E cls d H) [] F' ι' st'.length (wk st') Q' → tl E H' Q') ∧
  PostG (RV T) T W0 [] F ι st.length (callL P K wk i st) Q
theorem start_env {T : Tb} {F : Hp} {ι : Nat → Addr} {n ns : Nat} {N : List Str} {vs : List V} (h : ns ≤ N.length) : EnvR T F ι n (L2.start N vs) (List.replicate ns none) := by
  refine ⟨by unfold L2.start; simp; omega, fun i v e => ?_⟩
  rw [List.getElem?_replicate] at e
  split at e <;> cases e
theorem lam_out {T : Tb} {F : Hp} {ι : Nat → Addr} {keep : Bool} {m : Nat} {r : Fl} {Q : VK} (p : PostG (RV T) T W0 [] F ι m (outB keep m r) Q) : PostS T W0 F ι m r { nx := fun _ H' => Q .non H', rt := Q } :=
  out_post (G := T.G) (E := fun _ _ _ => False) p
section
variable {X : Cx} {T : Tb} {P : Pg} {Kt : Kit} {i jn jy k : Nat} {d : LFn} {Ng : List Str} {x a q n y cn : Str} {sg : Scope} {g : Addr} {cdg cS : Value} {body post : List Stmt} {p1 p2 p3 p4 p5 p6 p7 p8 p9 : Pos} {kc : Nat}
/-- err = None; try: body / except cn as n: err = n; post -/
theorem gives_try (hK : X.K = T.K) (hgd : X.A.guards = some []) (hd : P.lfn i = some d) (dn : d.ns ≤ Ng.length) (dp : d.pre = [(jy, .none)]) (de : d.en = jn) (dr : d.err = jy)
    (hN : Ng.Nodup) (hi : Ng[jn]? = some n) (hj : Ng[jy]? = some y) (j0 : jy ≠ 0) (ln : sg.names.lookup n = some .local) (ly : sg.names.lookup y = some .local) (kd : sg.kind = .function)
    (okn : nmOk n = true) (hc : sg.names.lookup cn = some .globalImplicit) (okc : nmOk cn = true) (hcS : X.mg cn = some cS) (hsub : ∀ c', PySem.W.exmOne X.K (.ref (T.exA c')) cS = some (P.sub c' d.cls))
    (hbody : ∀ (f c' : Addr) (s : Shared) (H : Hp) (tl : XK → Hp → VK → Prop),
      (∀ (W : L2.WX) (pn : List (Addr × Obj)) (xe : Value → Shared → Prop) (p1 p2 : Pos), L2.Takes ((cxOf C8.CX0 X.prog X.w X.K X.mg X.base Ng x sg g cdg X.A X.stack s H C8.E0).tr pn xe) W →
        PE ((cxOf C8.CX0 X.prog X.w X.K X.mg X.base Ng x sg g cdg X.A X.stack s H C8.E0).tr pn xe) (.Call (.Name a p1) [] [] p2) (fun τ G Q => τ[0]? = some (some (.ref f)) ∧ G c' = some (CodeO c' q) ∧ tl (WE W τ) G Q)) →
      ∀ (W : L2.WX) (pn : List (Addr × Obj)) (xe : Value → Shared → Prop), L2.Takes ((cxOf C8.CX0 X.prog X.w X.K X.mg X.base Ng x sg g cdg X.A X.stack s H C8.E0).tr pn xe) W →
        PSs ((cxOf C8.CX0 X.prog X.w X.K X.mg X.base Ng x sg g cdg X.A X.stack s H C8.E0).tr pn xe) body (fun D τ G => τ[0]? = some (some (.ref f)) ∧ G c' = some (CodeO c' q) ∧ tl (WE W τ) G fun v G' => D.nx (match d.found with
          | some j => τ.set j (some v)
          | none => τ) G'))
    (hpost : ∀ (s : Shared) (H : Hp), X.A.guards = some [] → Room (k + 1) (X.A.deeper (envOfC x sg s.heap.objs.size g cdg)) → DSs (cxOf C8.CX0 X.prog X.w X.K X.mg X.base Ng x sg g cdg X.A X.stack s H C8.E0).nox T W0 post (execS Kt P.fields d.post)) :
    Gives X k Ng x sg g cdg (.Assign [.Name y p4] (.Constant .none kc p5) p6 :: .Try body [.ExceptHandler (some (.Name cn p7)) (some n) [.Assign [.Name y p1] (.Name n p2) p3] p8] [] [] p9 :: post) a q (tTry T P Kt i) := by
  intro f c' s H Q tl act hco ⟨F, ι, st, wk, S, hw, p⟩ rm
  have sc : (cxOf C8.CX0 X.prog X.w X.K X.mg X.base Ng x sg g cdg X.A X.stack s H C8.E0).nox.env.scope = sg := rfl
  have tryR := ps_try_keep (X := (cxOf C8.CX0 X.prog X.w X.K X.mg X.base Ng x sg g cdg X.A X.stack s H C8.E0).nox) (pos := p9) (pos' := p8) (np := p7) (p1 := p1) (p2 := p2) (pa := p3) (i := jn) (j := jy) (c := cS) (Wout := W0) rfl rfl rfl hN hi hj ln ly ⟨hc, nmOk_1 okc, .inl hcS⟩ L2.takes0 (nmOk_1 okn) (nmOk_2 okn) (sole_ok rfl) stores_ok1 (each_one rfl) (fun W pn xe tk _ => hbody f c' s H tl act W pn xe tk)
  refine ⟨_, pss_cons (ps_asg pe_non (pg_name hN hj (.inl ly) (.inr ly)) (sole_ok rfl) stores_ok1 (each_one rfl)) (pss_cons tryR (hpost s H hgd rm)), ?_⟩
  have z0 : ((L2.start Ng [V.ref f]).set jy (some .non))[0]? = some (some (.ref f)) := by
    rw [List.getElem?_set_ne j0]
    have : 0 < Ng.length := by
      have := (List.getElem?_eq_some_iff.mp hj).1
      omega
    unfold L2.start
    rw [List.getElem?_append_left (by simp)]
    rfl
  have E0 : EnvR T F ι st.length ((L2.start Ng [V.ref f]).set jy (some .non)) (preE d) := by
    unfold preE
    rw [dp]
    exact (start_env dn).put (.p .non)
  refine ⟨z0, hco, hw F ι st H _ _ (Next.refl _ _ _) (Nat.le_refl _) S ?_⟩
  unfold callL at p
  rw [hd] at p
  simp only at p
  cases e : wk st with
  | no => rw [e] at p; exact p.elim
  | ok v s1 =>
    rw [e] at p
    simp only at p
    intro F' ι' H' xv N hn S' r
    refine ⟨F', ι', foundE d v, s1, S', ?_, (lam_out p).up N hn⟩
    have E1 := E0.up N hn
    unfold foundE
    cases d.found with
    | some j => exact E1.put r
    | none => exact E1
  | er c fs s1 =>
    rw [e] at p
    simp only at p
    intro F' ι' H' cls dd N hn S' R
    obtain ⟨rcl, d2, gs, rd, h2, h3⟩ := R
    subst rcl
    subst rd
    refine ⟨P.sub c d.cls, hsub c, fun hb => ⟨d2, rfl, fun b hb2 => ?_⟩, fun hb => ?_⟩
    · rw [if_pos hb] at p
      have fx : FX F' H' (upd F' b (ExcH b (.ref (T.exA c)) d2)) (upd H' b (ExcH b (.ref (T.exA c)) d2)) := FX.one hb2 S'.sub
      have rx : VRel T (upd F' b (ExcH b (.ref (T.exA c)) d2)) ι' s1.length (.x c fs) (.ref b) := .x upd_same (fx.f _ _ h2) (h3.mono fx.subF)
      refine ⟨_, ι', errE d (.x c fs), s1, S'.fx fx, ?_, (lam_out p).up (N.trans (fx.next (ι := ι') (n := s1.length)) hn) hn⟩
      unfold errE
      rw [de, dr]
      exact ((((E0.up N hn).up fx.next (Nat.le_refl _)).put rx).put rx).drop
    · rw [if_neg (by rw [hb]; decide)] at p
      exact p.elim
end
end Vm
end

section
/-! W9: x(lambda: e) as an expression of the little language. -/
namespace Vm
open PySem L2 PySem.Spec PyProof.Rows LamX
/-- what is known of a def that is handed a lambda -/
def LamF (T : Tb) (P : Pg) (n k : Nat) (X : Cx) (x : Str) (i : Nat) : Prop :=
  ∃ (a : Str) (g c Pt : Addr) (pg : Arguments) (bg : List Stmt) (sg : Scope) (dV kV doc pm cdv ct oc : Value) (an od : Option Addr) (osl : Array (Option Value)) (Ng : List Str),
    X.mg x = some (.ref g) ∧ PySem.W.keepIn X.K (.ref g) = true ∧ X.K.lookup g = some ⟨oc, od, .func (PySem.W.fnOf x x pg bg sg dV kV doc pm an cdv ct), osl⟩ ∧ PySem.W.codeIn X.K cdv x = true ∧
    L2.Binds X.K (PySem.W.fnOf x x pg bg sg dV kV doc pm an cdv ct) [a] [] ∧ FnScope Ng [a] sg ∧ Ng[0]? = some a ∧ Vis sg a ∧ nmOk a = true ∧
    (∀ m, n = m + 1 → ∀ G, Gives X k Ng x sg g cdv bg a (X.env.qual ++ "<lambda>") (tTry (T.wG G) P (kitOf P m) i)) ∧
    TabB X.base X.mg c Pt ∧ X.env.code = .ref c ∧ (Pt, X.env.qual ++ "<lambda>") ∈ T.tb ∧ (∀ p ∈ T.tb, p.1 = Pt → p.2 = X.env.qual ++ "<lambda>") ∧ Room (k + 2) X.A
section
variable {X : Cx} {T : Tb} {W : L2.WX} {P : Pg} {n k i : Nat} {x : Str} {params : Arguments} {body : Expr} {scope : Scope} {lpos pos p : Pos} {e : Ex}
theorem de_lam (LF : LamF T P n k X x i) (hg : Gl X x) (hdb : (x == ("__debug__" : Str)) = false) (L : LamS X.env.scope scope) (hdef : defaultsOf params X.env = ([], []))
    (hbind : ∀ (q : Str) (cl : List (Str × Addr)) (pm cv ctv : Value), bindArgs (PySem.W.kla_fn "<lambda>" q params body scope cl pm cv ctv) ⟨[], []⟩ = pure [])
    (hbody : ∀ (E : XK) (A : Around) (outer : List PySem.Env) (s : Shared) (H : Hp) (f c' : Addr), A.guards = X.A.guards → Room k (A.deeper (lamEnv X scope s.heap.objs.size f c')) → DE (lamCx X A outer s H E scope f c') T (fun cls d _ H => E cls d H) body (evalX (kitOf P n) e)) :
    DE X T W (.Call (.Name x p) [.Lambda params body scope lpos] [] pos) (evalX (kitOf P n) (.lam i e)) := by
  obtain ⟨a, g, c, Pt, pg, bg, sg, dV, kV, doc, pm, cdv, ct, oc, an, od, osl, Ng, hm, hk, lk, hcg, hb, Sg, hNg, hva, ha, hG, TB, hcode, hmT, hu, hr⟩ := LF
  cases n with
  | zero => exact ⟨fun pins s σ H Q I ⟨F, ι, env, st, S, E, q⟩ => by rw [evalX] at q; exact q.elim⟩
  | succ m =>
    refine pe_imp (pe_lam (t := fun E => tEvG (RV T) T (fun cls d _ H => E cls d H) (evalX (kitOf P (m + 1)) e)) hg hm hk lk hcg hb Sg hNg hva (hG m rfl T.G) TB hcode hmT hu hr L hdef hbind hbody hdb (nmOk_1 ha) (nmOk_2 ha)) fun σ H Q ⟨F, ι, env, st, S, E, q⟩ => ?_
    refine ⟨fun p hp => (S.tb p hp).1, fun H1 eN T1 => ⟨F, ι, st, fun s => evalX (kitOf P (m + 1)) e env s, S.extN eN T1, fun F' ι' st' H' Ech Q' N hn S' q' => ⟨F', ι', env, st', S', E.up N hn, ?_⟩, ?_⟩⟩
    · have q' : PostG (RV T) T (fun cls d _ H => Ech cls d H) [] F' ι' st'.length (evalX (kitOf P (m + 1)) e env st') Q' := q'
      revert q'
      cases evalX (kitOf P (m + 1)) e env st' with
      | ok v s => exact fun q' => q'
      | er c fs s => exact fun q' => q'
      | no => exact fun q' => q'
    · have q2 : PostG (RV T) T W σ F ι st.length (match callL P (kitOf P m) (fun s => evalX (kitOf P (m + 1)) e env s) i st with
        | .ok v s => .ok v s
        | _ => .no) Q := by
        rw [evalX] at q
        exact q
      revert q2
      cases callL P (kitOf P m) (fun s => evalX (kitOf P (m + 1)) e env s) i st with
      | ok v s => exact fun q2 => q2
      | er c fs s => exact fun q2 => q2.elim
      | no => exact fun q2 => q2
end
section
variable {X : Cx} {T : Tb} {W : L2.WX} {Kt : Kit} {e : Expr} {a : Ex}
/-- a list that is never changed again -/
theorem de_frz (h1 : DE X T W e (evalX Kt a)) : DE X T W e (evalX Kt (.frz a)) := pe_imp h1 fun σ H Q ⟨F, ι, env, st, S, E, p⟩ => by
  rw [evalX] at p
  refine tEvG.imp (ev_go S E (PostG.bind (RA := RV T) p)) fun x H1 ⟨F1, ι1, v, st1, M, p1⟩ => ?_
  have e1 : ((frzV v st1).bind fun v s => R.ok v s) = frzV v st1 := by cases frzV v st1 <;> rfl
  have p2 : PostG (RV T) T W σ F1 ι1 st1.length ((frzV v st1).bind fun v s => R.ok v s) Q := by rw [e1]; exact p1
  obtain ⟨F2, v', st2, N, hl, S2, r2, _, _, p3⟩ := frz_post M.sim M.rel p2
  exact p3.now (Next.refl _ _ _) (Nat.le_refl _) S2 r2
end
end Vm
end

section
/-! X5: an error made with keywords. -/
namespace Vm
open PySem PySem.Spec PyProof.Rows PySem.HandSPX
section
variable {M : Model} {A : Around} {E : Value → Shared → Prop} {h : Heap} {g : Array GenState} {d : Drawn} {t : Nat} {os : OsState}
variable {nm q : Str} {C N : Addr} {bs bm bmB : List Value} {hdct : Bool} {sn : List Str} {sub : List Value} {ab : Bool} {col : Option Bool} {dd : Option Addr} {k0 k1 k2 k3 k5 : Option Value} {B newId initId : String}
/-- the call of the class itself, with keywords -/
theorem chk_call {ps : List Value} {kw : List (Str × Value)} {Q : Unit → Shared → Prop} (hC : h.get? C = some (excClassObj nm q C N bs bm hdct sn sub ab col dd k0 k1 k2 k3 k5 newId)) (hq : Q () ⟨h, g, d, t, os⟩) :
    wpAny M A (checkBuiltinCall "type.__call__" ⟨.ref C :: ps, kw⟩) Q E ⟨h, g, d, t, os⟩ := by
  have s1 := tc_sub
  have isT : (⟨h, g, d, t, os⟩ : Shared).TypeIs (.ref C) "type" := ⟨_, hC, rfl⟩
  simp only [checkBuiltinCall, tc_kind, tc_split]
  repeat (any_goals (first | assumption | (with_reducible refine wpAny_loadPart_at hC ?_) | (with_reducible refine wpAny_onRaise ?_) | (with_reducible refine wpAny_map ?_) | wp_step))
/-- its __new__ takes any keywords -/
theorem chk_new (F : ExcBaseFacts B newId initId bmB) (hT : ∀ X : String, bm.contains (.type X) = bmB.contains (.type X)) {ps : List Value} {kw : List (Str × Value)} {Q : Unit → Shared → Prop}
    (hC : h.get? C = some (excClassObj nm q C N bs bm hdct sn sub ab col dd k0 k1 k2 k3 k5 newId)) (hq : Q () ⟨h, g, d, t, os⟩) : wpAny M A (checkBuiltinCall newId ⟨.ref C :: ps, kw⟩) Q E ⟨h, g, d, t, os⟩ := by
  have c1 : (Value.ref C :: bm).contains (.type B) = true := by rw [List.contains_cons, hT, F.hasB, Bool.or_true]
  have c2 := F.noStar
  simp only [checkBuiltinCall, F.newKind, F.newSplit, F.newRow]
  repeat (first | (refine wpAny_loadPart_at hC ?_) | (refine wpAny_isSubtype_exc hC ?_; rw [c1]) | (refine wpAny_staticBase_exc hC ?_) | (refine wpAny_madeBy_exc hC ?_) | (simp only [bne_self_eq_false, Bool.false_eq_true, if_false]) | wp_step)
  exact hq
end
section
variable {prog : Program} {w : World} {A : Around} {E : Value → Shared → Prop} {R : Result → Shared → Prop} {h : Heap} {g : Array GenState} {d : Drawn} {t : Nat} {os : OsState}
variable {nm q : Str} {C N : Addr} {bs bm bmB : List Value} {hdct : Bool} {sn : List Str} {sub : List Value} {ab : Bool} {col : Option Bool} {dd : Option Addr} {k0 k1 k2 k3 k5 : Option Value} {B newId initId : String}
theorem new_kw (F : ExcBaseFacts B newId initId bmB) (hT : ∀ X : String, bm.contains (.type X) = bmB.contains (.type X)) {ps : List Value} {kw : List (Str × Value)}
    (hC : h.get? C = some (excClassObj nm q C N bs bm hdct sn sub ab col dd k0 k1 k2 k3 k5 newId)) (hl : ps.length ≤ sizeLine)
    (hq : R (.ok (.ret (.ref (h.objs.size + 1)))) ⟨(h.push (W.kdv_tup ps)).push (excO C h.objs.size), g, d, t, os⟩) :
    codeAny (model prog w) A (.builtin newId ⟨.ref C :: ps, kw⟩) R ⟨h, g, d, t, os⟩ := by
  have c0 := F.ends
  have c1 : (Value.ref C :: bm).contains (.type B) = true := by rw [List.contains_cons, hT, F.hasB, Bool.or_true]
  have c2 : (Value.ref C :: bm).contains (.type "AttributeError") = false := by rw [List.contains_cons, hT, F.noAttr]; rfl
  have c3 : (Value.ref C :: bm).contains (.type "NameError") = false := by rw [List.contains_cons, hT, F.noName]; rfl
  refine codeAny_builtinAt F.entry ?_
  unfold Builtin.«BaseException.__new__»
  refine PySem.wpAt_bind ?_
  show PySem.wpAt _ _ _ (stack >>= _) _ _ _
  refine PySem.wpAt_bind (PySem.wpAt_stack fun p below => PySem.wpAt_of_wpAny ?_)
  wp_walk
  refine PySem.wpAt_of_wpAny ?_
  rw [F.owner]
  repeat (first | (with_reducible refine wpAny_madeHere_exc F.canon hC ?_) | (with_reducible refine wpAny_loadPart_at hC ?_) | (with_reducible refine wpAny_isSubtype_exc hC ?_; first | rw [c1] | rw [c2] | rw [c3]) | wp_step)
  show R _ _
  rw [Heap.size_push]
  exact hq
theorem type_kw (F : ExcBaseFacts B newId initId bmB) (hT : ∀ X : String, bm.contains (.type X) = bmB.contains (.type X)) {ps : List Value} {kw : List (Str × Value)} {fI : Addr} {Q : Fin → Shared → Prop}
    (hC : h.get? C = some (excClassObj nm q C N bs bm hdct sn sub ab col dd k0 k1 k2 k3 k5 newId))
    (hi : W.Looks (model prog w) h (typeLookup (.ref C) "__init__") (some (.ref fI))) (hb : ∀ self, W.Looks (model prog w) h (bindSpecial (.ref fI) self) (.ref fI, [self])) (hl : ps.length ≤ sizeLine)
    (hq : codeAny (model prog w) A (.call (.ref fI) ⟨.ref (h.objs.size + 1) :: ps, kw⟩)
      (fun r s' => match r with | .ok (.ret v) => v = .none ∧ Q (.done (.ret (.ref (h.objs.size + 1)))) s' | .ok _ => False | .error e => E e s')
      ⟨(h.push (W.kdv_tup ps)).push (excO C h.objs.size), g, d, t, os⟩) :
    wpAny (model prog w) A (Builtin.«type.__call__» ⟨.ref C :: ps, kw⟩) Q E ⟨h, g, d, t, os⟩ := by
  repeat (first | (with_reducible refine wpAny_loadPart_at hC ?_) | (with_reducible refine wpAny_madeBy_exc hC ?_) | wp_step)
  refine codeAny_call_builtin_code (Code.quiet_builtin _ F.quiet) (chk_new F hT hC (new_kw F hT hC hl ?_))
  show wpAny _ _ _ _ _ _
  have up : ∀ b o, h.get? b = some o → ((h.push (W.kdv_tup ps)).push (excO C h.objs.size)).get? b = some o := fun b o e => Heap.get?_push_of_some _ (Heap.get?_push_of_some _ e)
  have new : ((h.push (W.kdv_tup ps)).push (excO C h.objs.size)).get? (h.objs.size + 1) = some (excO C h.objs.size) := by heap_get
  have hC₁ := up _ _ hC
  have own : (Value.ref C :: bm).contains (.ref C) = true := by simp
  have look := hi.keeps up
  have bind := (hb (.ref (h.objs.size + 1))).keeps up
  unfold isInstance
  repeat (first | (with_reducible refine wpAny_loadPart_at new ?_) | (with_reducible refine wpAny_isSubtype_exc hC₁ ?_; rw [own]) | wp_step)
  show wpAny _ _ (typeLookup (.ref C) _) _ _ _
  refine look.at (wpAny_holding (wpAny_bind (bind.at ?_)))
  refine wpAny_bind (wpAny_call (codeAny_mono hq fun r s' z => ?_))
  rcases r with e | (v | _ | _ | _) <;> first | exact z | exact z.elim | skip
  obtain ⟨rfl, z⟩ := z
  first
    | exact wpAny_pure (wpAny_pure z)
    | (wp_walk; exact z)
theorem call_kw (F : ExcBaseFacts B newId initId bmB) (hT : ∀ X : String, bm.contains (.type X) = bmB.contains (.type X)) {ps : List Value} {kw : List (Str × Value)} {fI : Addr}
    (hC : h.get? C = some (excClassObj nm q C N bs bm hdct sn sub ab col dd k0 k1 k2 k3 k5 newId))
    (hi : W.Looks (model prog w) h (typeLookup (.ref C) "__init__") (some (.ref fI))) (hb : ∀ self, W.Looks (model prog w) h (bindSpecial (.ref fI) self) (.ref fI, [self])) (hl : ps.length ≤ sizeLine)
    (hq : codeAny (model prog w) (A.under (.builtin "type.__call__" ⟨.ref C :: ps, kw⟩)) (.call (.ref fI) ⟨.ref (h.objs.size + 1) :: ps, kw⟩) (W.InitBack (h.objs.size + 1) R)
      ⟨(h.push (W.kdv_tup ps)).push (excO C h.objs.size), g, d, t, os⟩) :
    codeAny (model prog w) A (.call (.ref C) ⟨ps, kw⟩) R ⟨h, g, d, t, os⟩ := by
  have s1 := tc_lookup
  have s2 := tc_bind (.ref C)
  have isT : (⟨h, g, d, t, os⟩ : Shared).TypeIs (.ref C) "type" := ⟨_, hC, rfl⟩
  refine codeAny_of_tree ?_
  show wpAny _ _ (callAny (.ref C) _) _ _ _
  repeat (any_goals (first | assumption | (with_reducible refine wpAny_loadPart_at hC ?_) | wp_step))
  refine ⟨rfl, codeAny_call_builtin_at (Code.quiet_builtin _ (by decide +kernel)) entry_typeCall (chk_call hC (type_kw F hT hC hi hb hl (codeAny_mono hq fun r s' z => ?_)))⟩
  rcases r with e | (v | _ | _ | _) <;> exact z
end
end Vm
end

section
/-! X6: C(k = v, ..) of an error's class. -/
namespace Vm
open PySem L2 PySem.Spec PyProof.Rows
theorem permL_cons {α : Type} (a : α) (pm : List Nat) (xs : List α) : permL (0 :: pm.map (· + 1)) (a :: xs) = a :: permL pm xs := by
  unfold permL
  rw [List.filterMap_cons]
  simp only [List.getElem?_cons_zero]
  rw [List.filterMap_map]
  rfl
section
variable {X : Cx} {T : Tb} {fl : Nat → List Str} {c : Nat} {tk : TA} {kws : List Keyword} {p pos : Pos} {ks : List Str} {pm : List Nat}
theorem pmk_kw {x : Str} {fI : Addr} {k : Nat} {fd : FuncData} {ps : List Str} (O : OexC X.K (T.exA c)) (iC : PySem.W.findIn X.K (.ref (T.exA c)) "__init__" = some (some (.ref fI))) (tI : PySem.W.typeIn X.K (.ref fI) = some (.type "function"))
    (F1 : FnOk X.prog X.w X.K X.mg X.base C8.CX0 k fI fd ps (spInit X.K (fl c))) (hz : (fl c).length ≤ 800) (hno : ∀ f ∈ fl c, PySem.W.findIn X.K (.ref (T.exA c)) f = some none) (hr : Room (k + 1) X.A) (hb : KSig X.K fd ps 1 ks (0 :: pm.map (· + 1))) (hg : Gl X x) (hm : X.mg x = some (.ref (T.exA c)))
    (hkp : PySem.W.keepIn X.K (.ref (T.exA c)) = true) (hkw : PK X kws tk) (hall : (backToKw pos (keywordEach kws X.env)).all (·.1.isSome) = true) (hks : (backToKw pos (keywordEach kws X.env)).filterMap (·.1) = ks)
    (mono : ∀ σ H Q Q', tk σ H Q → (∀ vs H, Q vs H → Q' vs H) → tk σ H Q') (hdb : (x == ("__debug__" : Str)) = false)
    (hpl : ((backTo pos (starEach [] X.env)).any (·.1) || (backToKw pos (keywordEach kws X.env)).any (·.1.isNone)) = false) :
    PMk X (.Call (.Name x p) [] kws pos) (tNewX T fl c (fun σ H Q => tk σ H fun zs H1 => zs.length = ks.length ∧ Q (permL pm zs) H1)) := by
  intro pins s σ H Q I h
  obtain ⟨nm, q, N, bs, bm, sn, sub, ab, col, dd, k0, k1, k2, k3, k5, hC, hbm⟩ := O.cls
  refine wpAny_Call_Name_kw (ld_glob I hg hm ?_ hdb)
  refine PySem.W.callWith_KW0 (h₀ := X.base) I.ok.mod.kin hkp hall ?_ hpl
  refine thn (hkw.run pos pins s σ H _ I h) fun ws s1 ⟨zs, H1, I1, rz, l2, l3, want⟩ => ⟨I1.kIn, ?_⟩
  rw [hks]
  obtain ⟨g0, gg, dr, tt, os⟩ := s1
  have le1 : g0.objs.size ≤ g0.objs.size + 1 := Nat.le_succ _
  have fresh : H1 (g0.objs.size + 1) = none := I1.hok.fresh le1
  have up : ∀ b o, g0.get? b = some o → ((g0.push (PySem.W.kdv_tup [])).push (PySem.HandSPX.excO (T.exA c) g0.objs.size)).get? b = some o := fun b o e => Heap.get?_push_of_some _ (Heap.get?_push_of_some _ e)
  have new : ((g0.push (PySem.W.kdv_tup [])).push (PySem.HandSPX.excO (T.exA c) g0.objs.size)).get? (g0.objs.size + 1) = some (PySem.HandSPX.excO (T.exA c) g0.objs.size) := by heap_get
  have J : Inv X pins σ (upd H1 (g0.objs.size + 1) (exo (g0.objs.size + 1) (T.exA c) none)) ⟨(g0.push (PySem.W.kdv_tup [])).push (PySem.HandSPX.excO (T.exA c) g0.objs.size), gg, dr, tt, os⟩ :=
    I1.laid (t' := tt) (a := g0.objs.size + 1) (o := exo (g0.objs.size + 1) (T.exA c) none) up le1 (exo_ok new)
  have rr : Vals (permL (0 :: pm.map (· + 1)) (V.ref (g0.objs.size + 1) :: zs)) (permL (0 :: pm.map (· + 1)) (Value.ref (g0.objs.size + 1) :: ws)) := permL_vals (.cons (show RelV (V.ref (g0.objs.size + 1)) (Value.ref (g0.objs.size + 1)) from rfl) rz) _
  have lw : ws.length = ks.length := rz.length.symm.trans l2
  have bt := hb ⟨(g0.push (PySem.W.kdv_tup [])).push (PySem.HandSPX.excO (T.exA c) g0.objs.size), gg, dr, tt, os⟩ [Value.ref (g0.objs.size + 1)] ws J.kIn rfl lw
  have sp : spInit X.K (fl c) (permL (0 :: pm.map (· + 1)) (V.ref (g0.objs.size + 1) :: zs)) (upd H1 (g0.objs.size + 1) (exo (g0.objs.size + 1) (T.exA c) none)) (fun v H2 => v = .non ∧ ∃ d, H2 (g0.objs.size + 1) = some (exo (g0.objs.size + 1) (T.exA c) (some d)) ∧ H2 d = some (exd d ((fl c).zip (permL pm zs)).reverse) ∧ H1 d = none ∧ Q (.ref (T.exA c)) (some d) (upd (del H2 (g0.objs.size + 1)) d (.xd ((fl c).zip (permL pm zs)).reverse))) (fun _ _ _ => False) := by
    rw [permL_cons]
    refine ⟨g0.objs.size + 1, T.exA c, permL pm zs, rfl, l3, hz, O, hno, upd_same, fun d h1 h2 => ⟨rfl, d, upd_same, ?_, ?_, ?_⟩⟩
    · rw [upd_ne h2, upd_same]
    · rw [upd_ne h2] at h1
      exact h1
    · rw [upd_ne h2] at h1
      have e : upd (del (upd (upd (upd H1 (g0.objs.size + 1) (exo (g0.objs.size + 1) (T.exA c) none)) d (exd d ((fl c).zip (permL pm zs)).reverse)) (g0.objs.size + 1) (exo (g0.objs.size + 1) (T.exA c) (some d))) (g0.objs.size + 1)) d (.xd ((fl c).zip (permL pm zs)).reverse) = upd H1 d (.xd ((fl c).zip (permL pm zs)).reverse) := by
        funext b
        by_cases b1 : b = d
        · rw [b1, upd_same, upd_same]
        · rw [upd_ne b1, upd_ne b1]
          by_cases b2 : b = g0.objs.size + 1
          · rw [b2, del_same, fresh]
          · rw [del_ne b2, upd_ne b2, upd_ne b1, upd_ne b2]
      rw [e]
      exact want d h1
  refine wpAny_call (call_kw F.excBase_ValueError (fun Y => PySem.HandSPX.refsVE_contains Y bm hbm) (I1.kIn _ _ hC) (PySem.W.looks_findIn I1.kIn iC) (fun self => PySem.W.bind_fn I1.kIn self tI) (Nat.zero_le _)
    (codeAny_mono (F1.run _ X.stack _ _ ⟨[Value.ref (g0.objs.size + 1)], ks.zip ws⟩ (permL (0 :: pm.map (· + 1)) (Value.ref (g0.objs.size + 1) :: ws)) _ _ (fun _ _ _ => False) (hr.make (T.exA c) [] (ks.zip ws)) (J.env0.make (T.exA c) [] (ks.zip ws)) bt rr sp) fun r s' z => ?_))
  match r, z with
  | .error er, z => exact C8.pass0 (E := fun _ _ _ => False) pins σ _ _ er s' J z
  | .ok (.ret u), z =>
    obtain ⟨v, H2, os2, bare2, un2, hok2, rv, ev, d, ea, ed, hd1, q2⟩ := z
    subst ev
    obtain ⟨h2, g2, d2, t2, os'⟩ := s'
    exact ⟨rv, mk_end (raises_own O.exC O.tyC) I1 le1 up un2 hok2 os2 bare2 ea ed hd1 q2⟩
  | .ok .next, z => exact z.elim
  | .ok .brk, z => exact z.elim
  | .ok .cont, z => exact z.elim
end
section
variable {X : Cx} {T : Tb} {W : L2.WX} {Kt : Kit} {e : Expr} {c : Nat} {es : Ex} {ks : List Str} {pm : List Nat}
theorem de_mkk (hmk : PMk X e (tNewX T Kt.fl c (fun σ H Q => tEvG (RL T) T W (evalL Kt es) σ H fun zs H1 => zs.length = ks.length ∧ Q (permL pm zs) H1))) : DE X T W e (evalX Kt (.mkk c ks pm es)) :=
  de_by fun σ F ι env st H Q S E p => by
    rw [evalX] at p
    refine ⟨_, pe_keep hmk, ?_⟩
    refine tEvG.imp (ev_go S E (PostG.bind (RA := RL T) p)) fun vs H1 ⟨F1, ι1, ws, st1, M, q⟩ => ?_
    split at q
    case isFalse => exact q.elim
    rename_i hn
    refine ⟨M.rel.length.symm.trans hn, ?_⟩
    have rel := permL_rel M.rel pm
    generalize permL pm vs = vs' at rel ⊢
    generalize permL pm ws = ws' at rel q
    unfold mkX at q
    cases q1 : unPs ws' with
    | none => simp only [q1] at q; exact q.elim
    | some ds =>
      simp only [q1] at q
      have dl := rel.pure q1
      cases q2 : excFs c Kt.fl ds with
      | none => simp only [q2] at q; exact q.elim
      | some fs =>
        simp only [q2, R.of_some] at q
        unfold excFs at q2
        split at q2
        · rename_i hl
          cases q2
          refine ⟨by rw [DatL.len dl, hl], fun d hd => ⟨d, rfl, fun a ha => ?_⟩⟩
          have fx : FX F1 H1 (upd F1 d (.xd ((Kt.fl c).zip vs').reverse)) (upd H1 d (.xd ((Kt.fl c).zip vs').reverse)) := FX.one hd M.sim.sub
          have S2 := M.sim.fx fx
          have fx2 := FX.one (p := a) (o := ExcH a (.ref (T.exA c)) d) ha S2.sub
          refine q.now (fx.next.trans fx2.next (Nat.le_refl _)) (Nat.le_refl _) (S2.fx fx2) (.x upd_same (fx2.f _ _ upd_same) ((FldR.zip ((dl.up fx.subF).up fx2.subF)).rev))
        · cases q2
end
end Vm
end

section
/-! X7: try: body / except X: y = y + i. -/
namespace Vm
open PySem L2 PySem.Spec PyProof.Rows
section
variable {X : Cx} {T : Tb} {W : L2.WX} {Kt : Kit} {fl : Nat → List Str} {x y : Str} {c : Value} {i : Int} {j jn k : Nat} {body : List Stmt} {np p1 p2 p3 pb pa pos pos' : Pos} {m : Sm}
theorem PostS.calm {F : Hp} {ι : Nat → Addr} {n : Nat} {D : Ends} {env : Vm.Env} {st : Store} (p : PostS T W F ι n (execS Kt fl (.asg (.n j) (.bin .add (.var j) (.con (.int i)))) env st) D) : PostS T W0 F ι n (execS Kt fl (.asg (.n j) (.bin .add (.var j) (.con (.int i)))) env st) D := by
  revert p
  rw [execS, evalX, evalX]
  cases env[j]? with
  | none => exact fun p => p
  | some o =>
    cases o with
    | none => exact fun p => p
    | some v =>
      simp only [R.bind_ok]
      rw [evalX]
      simp only [R.bind_ok]
      cases binV .add (see st v) (see st (.p (.int i))) with
      | none => exact fun p => p
      | some z => exact fun p => p
theorem ds_try0 (hs : X.stack = X.env :: X.outer) (hf : X.env.frame = some X.env.locals) (hN : X.N.Nodup) (hj : X.N[j]? = some y) (hly : X.env.kindOf y = some .local) (hvy : Vis X.env.scope y) (hc : Names X x c) (tk : Takes X W)
    (hdy : (y == ("__debug__" : Str)) = false) (hcy : (y == ("__classdict__" : Str)) = false) (hK : X.K = T.K) (hsub : ∀ c', PySem.W.exmOne X.K (.ref (T.exA c')) c = some (Kt.sub c' k))
    (hsw : swapsWithSole [.Name y p1] (.BinOp (.Name y p2) .Add (.Constant (.int i) jn p3) pb) pa.line X.env = pure false) (hsv : swappedStores [.Name y p1] (.BinOp (.Name y p2) .Add (.Constant (.int i) jn p3) pb) X.env = pure none) (has : (assignEach [.Name y p1] X.env).map (·.2) = [assign (.Name y p1) X.env])
    (hb : ∀ (W' : L2.WX) (pn : List (Addr × Obj)) (xe : Value → Shared → Prop), Takes (X.tr pn xe) W' → PassesOwn (model X.prog X.w) X.A X.env xe → DSs (X.tr pn xe) T W' body (execS Kt fl m)) :
    DS X T W (.Try body [.ExceptHandler (some (.Name x np)) none [.Assign [.Name y p1] (.BinOp (.Name y p2) .Add (.Constant (.int i) jn p3) pb) pa] pos'] [] [] pos) (execS Kt fl (.tr m k none (.asg (.n j) (.bin .add (.var j) (.con (.int i)))))) := by
  refine ps_imp (ps_try_only (ts := fun _ _ _ => tS T W0 (execS Kt fl (.asg (.n j) (.bin .add (.var j) (.con (.int i)))))) hs hf hc tk hb fun a oe cls d pn hz hd => ?_) fun D σ H ⟨F, ι, env, st, S, E, p⟩ => ⟨F, ι, env, st, S, E, ?_⟩
  · exact pss_one (ds_asgN (X := X.suite a ((a, oe) :: pn)) (de_bin (o := .add) hK (de_var hj hvy hdy hcy) de_int) (pg_name hN hj (.inl hly) (.inr hly)) hsw hsv has)
  · rw [execS] at p
    cases e : execS Kt fl m env st with
    | nx e1 s1 => rw [e] at p; exact p
    | rt v s1 => rw [e] at p; exact p
    | bk e1 s1 => rw [e] at p; exact p
    | ct e1 s1 => rw [e] at p; exact p
    | no => rw [e] at p; exact p
    | er c' fs e1 s1 =>
      rw [e] at p
      intro F' ι' H' σ' cls d N hn S' E' R
      obtain ⟨rcl, dd, gs, rfl, hd, hg⟩ := R
      subst rcl
      refine ⟨Kt.sub c' k, hsub c', fun hb a ha => ?_, fun hb => ?_⟩
      · simp only [hb, if_true] at p
        exact ⟨F', ι', e1, s1, S', E', (p.up N hn).calm⟩
      · simp only [hb] at p
        exact p F' ι' H' σ' _ _ N hn S' E' ⟨rfl, dd, gs, rfl, hd, hg⟩
end
end Vm
end

section
/-! V33: what is known of a piece of code; the text of an expression against its tree. -/
namespace Vm
open PySem L2 PySem.Spec PyProof.Rows

theorem dt_ing {X : Cx} {T : Tb} {W : L2.WX} {Kt : Kit} {e1 : Expr} {pos p : Pos} {x : Str} {neg : Bool} {a : Ex} {g : Nat} {q : Addr} {xs : List V} {ds : List PyData} (hK : X.K = T.K) (h1 : DE X T W e1 (evalX Kt a)) (hg : Gl X x) (hm : X.mg x = some (.ref q)) (hd : (x == ("__debug__" : Str)) = false) (hT : ∀ H, SqT X.K H q xs) (hD : DatL T.K (fun _ => none) xs ds) (hc : Kt.con g = some (.tuple ds))
    (hmk : behindInMarks (if neg then .NotIn else .In) (.Name x p) = false) :
    DT X T W (.Compare e1 [if neg then .NotIn else .In] [.Name x p] pos) (evalT Kt (.cons (.ing neg a g) .nil)) := by
  have h2 := pe_glob (pos := p) hg hm (show RelV (.ref q) (.ref q) from rfl) hd
  have key : OpR X (compareOp (if neg then .NotIn else .In)) (fun x y H Q => y = .ref q ∧ rIng T neg ds x H Q) := opr_by fun x y H Q h => by
    obtain ⟨rfl, F, ι, st, a, d, S, r, e, f1, f2, k⟩ := h
    have s1 := see_seen S r e
    have dx := s1.flat f1
    obtain ⟨k1, k2⟩ := inV_of dx f1 (hD.up (F := fun _ => none) (H := F) fun a o h => by cases h) f2
    cases neg with
    | false => exact ⟨_, op_in_seq, q, xs, rfl, .inr (hT H), flat_dat dx f1, k1, by rw [k2]; exact k⟩
    | true => exact ⟨_, op_notIn_seq, q, xs, rfl, .inr (hT H), flat_dat dx f1, k1, by rw [k2]; exact k⟩
  refine pt_imp (pt_cmpR (pos := pos) key h1 h2 hmk) fun σ H Q ⟨F, ι, env, st, S, E, p⟩ => ?_
  rw [evalT, evalX] at p
  rw [bind_bind] at p
  refine tEvG.imp (ev_go S E (PostG.bind (RA := RV T) p)) fun x H1 ⟨F1, ι1, v, st1, M, p1⟩ => ?_
  rw [hc] at p1
  split at p1
  · rename_i d ds' q1 q2
    cases q2
    split at p1
    · rename_i hh
      exact ⟨rfl, F1, ι1, st1, v, d, M.sim, M.rel, q1, hh.1, hh.2, _, rfl, p1.now (Next.refl _ _ _) (Nat.le_refl _) M.sim rfl⟩
    · exact p1.elim
  · exact p1.elim

structure MC where
  N : List Str
  fn : List (Str × Nat)
  co : List (Str × Nat)
  ct : List (Str × Nat)
  ow : List (Str × Nat)
  no : List Str
  kw : List (Nat × Nat × List Str × List Nat)
  mx : List (Str × Nat)
  lf : List (Str × Nat)
  kx : List (Nat × List Str × List Nat)
/-- what is known of an error's class that is made -/
def MkF (X : Cx) (T : Tb) (fl : Nat → List Str) (kx : List (Nat × List Str × List Nat)) (c : Nat) : Prop := ∃ (fI : Addr) (fd : FuncData) (ps : List Str), OexC X.K (T.exA c) ∧ PySem.W.findIn X.K (.ref (T.exA c)) "__init__" = some (some (.ref fI)) ∧ PySem.W.typeIn X.K (.ref fI) = some (.type "function") ∧
  FnOk X.prog X.w X.K X.mg X.base C8.CX0 2 fI fd ps (spInit X.K (fl c)) ∧ (fl c).length ≤ 800 ∧ (∀ f ∈ fl c, PySem.W.findIn X.K (.ref (T.exA c)) f = some none) ∧ Binds X.K fd ps [] ∧ ∀ ks pm, (c, ks, pm) ∈ kx → KSig X.K fd ps 1 ks (0 :: pm.map (· + 1))
/-- what is known of the context -/
structure Kn (T : Tb) (P : Pg) (n : Nat) (M : MC) (X : Cx) : Prop where
  N : X.N = M.N
  nd : M.N.Nodup
  calm : X.calm = true
  K : X.K = T.K
  gd : X.A.guards = some []
  hu : X.A.units + 100 < cLine
  sm : ∃ o, X.K.lookup sysModules = some o ∧ ∀ its n, o.data ≠ .seq its n
  fn : ∀ x i, M.fn.lookup x = some i → ∃ f fd ps, FnG X.prog X.w X.K X.mg X.base (3 * n + 3) f fd ps (spOf T P n i) ∧ X.mg x = some (.ref f) ∧ PySem.W.keepIn X.K (.ref f) = true ∧ Binds X.K fd ps [] ∧
    ∀ m ks pm, (i, m, ks, pm) ∈ M.kw → KSig X.K fd ps m ks pm
  co : ∀ x g, M.co.lookup x = some g → ∃ u v d, X.mg x = some u ∧ RelV v u ∧ Dat T.K (fun _ => none) v d ∧ P.con g = some d
  ct : ∀ x g, M.ct.lookup x = some g → ∃ q xs ds, X.mg x = some (.ref q) ∧ (∀ H, SqT X.K H q xs) ∧ DatL T.K (fun _ => none) xs ds ∧ P.con g = some (.tuple ds)
  no : ∀ x, M.no.contains x = true → X.mg x = none
  ow : OwnK X T (kitOf P n) T.exA
  own : ∀ x c, M.ow.lookup x = some c → X.mg x = some (.ref (T.exA c))
  room : Room (3 * n + 3) X.A
  exm : ∀ x c, M.ow.lookup x = some c → ∀ c', PySem.W.exmOne X.K (.ref (T.exA c')) (.ref (T.exA c)) = some (P.sub c' c)
  mx : ∀ x c, M.mx.lookup x = some c → X.mg x = some (.ref (T.exA c)) ∧ MkF X T P.fields M.kx c
  lam : ∀ x i, M.lf.lookup x = some i → LamF T P n (3 * n + 3) X x i
theorem FnG.le {Pr : Program} {w : World} {K : PySem.W.Frag} {mg : Str → Option Value} {base : Heap} {k : Nat} {f : Addr} {fd : FuncData} {ps : List Str} {sp sp' : Sp} (F : FnG Pr w K mg base k f fd ps sp) (h : ∀ vs H Q E, sp' vs H Q E → sp vs H Q E) : FnG Pr w K mg base k f fd ps sp' :=
  ⟨fun vs H Q E q => F.len vs H Q E (h _ _ _ _ q), fun A outer s H args us vs Q E a b c d e q => F.run A outer s H args us vs Q E a b c d e (h _ _ _ _ q)⟩
theorem spOf_wG {T : Tb} {P : Pg} {n i : Nat} (G : Hp) (vs : List V) (H : Hp) (Q : VK) (E : XK) (q : spOf (T.wG G) P n i vs H Q E) : spOf T P n i vs H Q E := by
  obtain ⟨G2, F, ι, st, ws, d, S, r, h1, h2, p⟩ := q
  have st' : SameT T (T.wG G) := SameT.wG T G
  refine ⟨G2, F, ι, st, ws, d, S, r.to st'.symm, h1, h2, ?_⟩
  revert p
  cases runF P n i ws st with
  | ok v s => exact fun p F' ι' H' x N hn S' r' => p F' ι' H' x N hn S' (VRel.to r' st')
  | er c fs s => exact fun p F' ι' H' cls d N hn S' x => p F' ι' H' cls d N hn S' ⟨x.cls, x.dct⟩
  | no => exact fun p => p
theorem LamF.wG {T : Tb} {P : Pg} {n k i : Nat} {X : Cx} {x : Str} (G : Hp) (h : LamF T P n k X x i) : LamF (T.wG G) P n k X x i := by
  obtain ⟨a, g, c, Pt, pg, bg, sg, dV, kV, doc, pm, cdv, ct, oc, an, od, osl, Ng, hm, hk, lk, hcg, hb, Sg, hNg, hva, ha, hG, TB, hcode, hmT, hu, hr⟩ := h
  exact ⟨a, g, c, Pt, pg, bg, sg, dV, kV, doc, pm, cdv, ct, oc, an, od, osl, Ng, hm, hk, lk, hcg, hb, Sg, hNg, hva, ha, fun m e G2 => hG m e G2, TB, hcode, hmT, hu, hr⟩
theorem Kn.wG {T : Tb} {P : Pg} {n : Nat} {M : MC} {X : Cx} (k : Kn T P n M X) (G : Hp) : Kn (T.wG G) P n M X :=
  ⟨k.N, k.nd, k.calm, k.K, k.gd, k.hu, k.sm, fun x i h => let ⟨f, fd, ps, h1, h2⟩ := k.fn x i h; ⟨f, fd, ps, h1.le (spOf_wG G), h2⟩, k.co, k.ct, k.no, ⟨k.ow.x, k.ow.p, k.ow.f, k.ow.o⟩, k.own, k.room, k.exm, k.mx, fun x i h => (k.lam x i h).wG G⟩
theorem Kn.blk {T : Tb} {P : Pg} {n : Nat} {M : MC} {X : Cx} (k : Kn T P n M X) (s : Shared) (H : Hp) (scope : Scope) (C : Addr) (cl : List (Str × Addr)) (fp : List Addr) : Kn T P n M (X.blk s H scope (compEnvC scope cl C X.env) fp) :=
  ⟨k.N, k.nd, k.calm, k.K, k.gd, k.hu, k.sm, k.fn, k.co, k.ct, k.no, ⟨k.ow.x, k.ow.p, k.ow.f, k.ow.o⟩, k.own, k.room, k.exm, k.mx, k.lam⟩
theorem Kn.tr {T : Tb} {P : Pg} {n : Nat} {M : MC} {X : Cx} (k : Kn T P n M X) (pn : List (Addr × Obj)) (xe : Value → Shared → Prop) : Kn T P n M (X.tr pn xe) :=
  ⟨k.N, k.nd, k.calm, k.K, k.gd, k.hu, k.sm, k.fn, k.co, k.ct, k.no, ⟨k.ow.x, k.ow.p, k.ow.f, k.ow.o⟩, k.own, k.room, k.exm, k.mx, k.lam⟩
/-- the body of a lambda -/
theorem Kn.lamb {T : Tb} {P : Pg} {n : Nat} {M : MC} {X : Cx} (k : Kn T P n M X) (A : Around) (outer : List PySem.Env) (s : Shared) (H : Hp) (E : XK) (scope : Scope) (f c' : Addr) (hg : A.guards = X.A.guards) (hr : Room (3 * n + 3) (A.deeper (LamX.lamEnv X scope s.heap.objs.size f c'))) :
    Kn T P n { M with lf := [] } (LamX.lamCx X A outer s H E scope f c') :=
  ⟨k.N, k.nd, rfl, k.K, by rw [show (LamX.lamCx X A outer s H E scope f c').A.guards = A.guards from rfl, hg]; exact k.gd, by have := hr.un; show (A.deeper _).units + 100 < cLine; omega, k.sm, k.fn, k.co, k.ct, k.no, ⟨k.ow.x, k.ow.p, k.ow.f, k.ow.o⟩, k.own, hr, k.exm, k.mx, fun x i h => nomatch h⟩
theorem takes_blk {X : Cx} {s : Shared} {H : Hp} {scope : Scope} {env : PySem.Env} {fp : List Addr} : Takes (X.blk s H scope env fp) W0 := fun u s' ⟨_, _, _, _, _, _, _, _, _, _, _, _, _, _, _, _, w⟩ => w.elim

/-! ### looks at the text -/
def okN (x : Str) : Bool := !(x == ("__debug__" : Str)) && !(x == ("__classdict__" : Str)) && !(x == ("__name__" : Str))
theorem okN_1 {x : Str} (h : okN x = true) : (x == ("__debug__" : Str)) = false := by
  unfold okN at h
  simp only [Bool.and_eq_true, Bool.not_eq_true'] at h
  exact h.1.1
theorem okN_2 {x : Str} (h : okN x = true) : (x == ("__classdict__" : Str)) = false := by
  unfold okN at h
  simp only [Bool.and_eq_true, Bool.not_eq_true'] at h
  exact h.1.2
theorem okN_3 {x : Str} (h : okN x = true) : x ≠ "__name__" := by
  unfold okN at h
  simp only [Bool.and_eq_true, Bool.not_eq_true'] at h
  intro e
  subst e
  have := h.2
  simp at this
def visB (sc : Scope) (x : Str) : Bool := match sc.names.lookup x with
  | some .local => true
  | some .cell => true
  | some .free => true
  | _ => false
theorem visB_ok {sc : Scope} {x : Str} (h : visB sc x = true) : Vis sc x := by
  unfold visB at h
  unfold Vis
  split at h
  · exact .inl (by assumption)
  · exact .inr (.inl (by assumption))
  · exact .inr (.inr (by assumption))
  · cases h
def glB (sc : Scope) (x : Str) : Bool := match sc.names.lookup x with
  | some .globalImplicit => true
  | _ => false
theorem glB_ok {X : Cx} {x : Str} (h : glB X.env.scope x = true) : Gl X x := by
  unfold glB at h
  unfold Gl Env.kindOf
  split at h
  · assumption
  · cases h
/-- a local name, or a cell of the def's own -/
def locB (sc : Scope) (x : Str) : Bool := match sc.names.lookup x with
  | some .local => true
  | some .cell => true
  | _ => false
theorem locB_ok {sc : Scope} {x : Str} (h : locB sc x = true) : L2.Loc sc x := by
  unfold locB at h
  unfold L2.Loc
  split at h
  · exact .inl (by assumption)
  · exact .inr (by assumption)
  · cases h
/-- a name that the module holds / does not hold -/
def biN : Bi → Option (String × Bool)
  | .len => some ("len", false)
  | .abs => some ("abs", false)
  | .all => some ("all", false)
  | .any => some ("any", false)
  | .int => some ("int", true)
  | .str => some ("str", true)
  | .list => some ("list", true)
  | .tuple => some ("tuple", true)
  | .min2 => some ("min", false)
  | .max2 => some ("max", false)
  | .sorted => some ("sorted", false)
  | .repr => some ("repr", false)
  | .sum => some ("sum", false)
  | _ => none
theorem bi_rule {X : Cx} {T : Tb} (hc : X.calm = true) (hK : X.K = T.K) (hG : X.A.guards = some []) (hu : X.A.units + 100 < cLine) (hM : ∃ o, X.K.lookup sysModules = some o ∧ ∀ its n, o.data ≠ .seq its n) : ∀ {b : Bi} {id : String} {ty : Bool}, biN b = some (id, ty) →
    (ty = false ∧ CallR X (.builtin id) (rBi T b) ∧ bootBuiltins id = some (.builtin id)) ∨ (ty = true ∧ CallR X (.type id) (rBi T b) ∧ bootBuiltins id = some (.type id)) := by
  intro b id ty h
  cases b <;> (first | (cases h; done) | skip) <;> cases h
  · exact .inl ⟨rfl, cb_len, by decide +kernel⟩
  · exact .inl ⟨rfl, cb_abs, by decide +kernel⟩
  · exact .inl ⟨rfl, cb_all hc hK, by decide +kernel⟩
  · exact .inl ⟨rfl, cb_any hc hK, by decide +kernel⟩
  · exact .inr ⟨rfl, cb_int, by decide +kernel⟩
  · exact .inr ⟨rfl, cb_str, by decide +kernel⟩
  · exact .inr ⟨rfl, cb_list hc, by decide +kernel⟩
  · exact .inr ⟨rfl, cb_tuple, by decide +kernel⟩
  · exact .inl ⟨rfl, cb_min hc, by decide +kernel⟩
  · exact .inl ⟨rfl, cb_max hc, by decide +kernel⟩
  · exact .inl ⟨rfl, cb_sorted hc, by decide +kernel⟩
  · exact .inl ⟨rfl, cb_repr hG hu hM, by decide +kernel⟩
  · exact .inl ⟨rfl, cb_sum hc, by decide +kernel⟩
def opBq : BinO → Operator → Bool
  | .add, .Add => true
  | .sub, .Sub => true
  | .mul, .Mult => true
  | .fdiv, .FloorDiv => true
  | .mod, .Mod => true
  | .pow, .Pow => true
  | _, _ => false
theorem opBq_ok {o : BinO} {p : Operator} (h : opBq o p = true) : p = opB o := by
  cases o <;> cases p <;> first | rfl | cases h
def opCq : CmpO → CmpOp → Bool
  | .eq, .Eq => true
  | .ne, .NotEq => true
  | .lt, .Lt => true
  | .le, .LtE => true
  | .gt, .Gt => true
  | .ge, .GtE => true
  | .is, .Is => true
  | .isNot, .IsNot => true
  | .isin, .In => true
  | .notin, .NotIn => true
  | _, _ => false
theorem opCq_ok {o : CmpO} {p : CmpOp} (h : opCq o p = true) : p = opC o := by
  cases o <;> cases p <;> first | rfl | cases h
def conB : PyData → Const → Bool
  | .none, .none => true
  | .bool b, .bool c => b == c
  | .int i, .int j => i == j
  | .str x, .str y => x == y
  | _, _ => false
/-- a class as isinstance is asked of it -/
def tyB (M : MC) (sc : Scope) (t : Ty) (e : Expr) : Bool := match t, e with
  | .own c, .Name x _ => glB sc x && okN x && (M.ow.lookup x == some c)
  | t, .Name x _ => isB t && glB sc x && okN x && M.no.contains x && (x == (tyS t : Str)) && (bootBuiltins x == some (.type (tyS t)))
  | _, _ => false
def tysB (M : MC) (sc : Scope) : List Ty → List Expr → Bool
  | [], [] => true
  | t :: ts, e :: es => tyB M sc t e && nStar e && tysB M sc ts es
  | _, _ => false
end Vm
end

section
/-! V34: the text of an expression against its tree. -/
namespace Vm
open PySem L2 PySem.Spec PyProof.Rows

inductive Src where
  | x (e : Expr)
  | t (e : Expr)
  | l (es : List Expr)
  | k (kws : List Keyword)
  | o (e : Option Expr)
  | i (tg e : Expr)
  | d (ks : List (Option Expr)) (vs : List Expr)
  | dv (v : Expr) (ks : List (Option Expr)) (vs : List Expr)
  | c (ifs : List Expr)
def chk (s : Src) (f : Expr → Bool) : Bool := match s with
  | .x e => f e
  | .t e => f e && nTest e
  | _ => false
def isNil : Ex → Bool
  | .nil => true
  | _ => false
theorem isNil_ok {a : Ex} (h : isNil a = true) : a = .nil := by cases a <;> first | rfl | cases h
def isZero : Ex → Bool
  | .con (.int 0) => true
  | _ => false
theorem isZero_ok {a : Ex} (h : isZero a = true) : a = .con (.int 0) := by
  unfold isZero at h
  split at h
  · rfl
  · cases h
def ownOf (N : List Str) (is : List Nat) : List (Str × Nat) := is.filterMap fun i => (N[i]?).map fun x => (x, i)
/-- no parameters -/
def noPar (p : Arguments) : Bool := p.posonlyargs.isEmpty && p.args.isEmpty && p.vararg.isNone && p.kwonlyargs.isEmpty && p.kw_defaults.isEmpty && p.kwarg.isNone && p.defaults.isEmpty
theorem noPar_eq {p : Arguments} (h : noPar p = true) : p = ⟨[], [], none, [], [], none, []⟩ := by
  obtain ⟨a, b, c, d, e, f, g⟩ := p
  unfold noPar at h
  simp only [Bool.and_eq_true, List.isEmpty_iff, Option.isNone_iff_eq_none] at h
  obtain ⟨⟨⟨⟨⟨⟨rfl, rfl⟩, rfl⟩, rfl⟩, rfl⟩, rfl⟩, rfl⟩ := h
  rfl
/-- targets: names -/
def nmB (N : List Str) (sc : Scope) (e : Expr) (i : Nat) : Bool := match e with
  | .Name x _ => (N[i]? == some x) && locB sc x
  | _ => false
def nmsB (N : List Str) (sc : Scope) : List Expr → List Nat → Bool
  | [], [] => true
  | e :: es, i :: is => nmB N sc e i && nmsB N sc es is
  | _, _ => false
def tgB (N : List Str) (sc : Scope) (e : Expr) (is : List Nat) : Bool := match e with
  | .Tuple es _ _ => decide (is.length ≠ 1) && nmsB N sc es is
  | e => match is with
    | [i] => nmB N sc e i
    | _ => false
def isTup : Expr → Bool
  | .Tuple .. => true
  | _ => false
def mS : MC → Ex → Scope → Src → Bool
  | M, .var i, sc, s => chk s fun e => match e with
    | .Name x _ => (M.N[i]? == some x) && visB sc x && okN x
    | _ => false
  | M, .con d, sc, s => chk s fun e => match e with
    | .Constant c _ _ => conB d c
    | _ => false
  | M, .glo g, sc, s => chk s fun e => match e with
    | .Name x _ => glB sc x && okN x && (M.co.lookup x == some g)
    | _ => false
  | M, .bin o a b, sc, s => chk s fun e => match e with
    | .BinOp e1 p e2 _ => opBq o p && mS M a sc (.x e1) && mS M b sc (.x e2)
    | _ => false
  | M, .neg a, sc, s => chk s fun e => match e with
    | .UnaryOp .USub e1 _ => mS M a sc (.x e1)
    | _ => false
  | M, .and a b, sc, s => match s with
    | .x (.BoolOp .And (e1 :: e2 :: rest) pos) => mS M a sc (.x e1) && mS M b sc (.x (if rest.isEmpty then e2 else .BoolOp .And (e2 :: rest) pos))
    | .t (.BoolOp .And (e1 :: e2 :: rest) pos) => mS M a sc (.t e1) && mS M b sc (.t (if rest.isEmpty then e2 else .BoolOp .And (e2 :: rest) pos))
    | _ => false
  | M, .or a b, sc, s => match s with
    | .x (.BoolOp .Or (e1 :: e2 :: rest) pos) => mS M a sc (.x e1) && mS M b sc (.x (if rest.isEmpty then e2 else .BoolOp .Or (e2 :: rest) pos))
    | .t (.BoolOp .Or (e1 :: e2 :: rest) pos) => mS M a sc (.t e1) && mS M b sc (.t (if rest.isEmpty then e2 else .BoolOp .Or (e2 :: rest) pos))
    | _ => false
  | M, .not a, sc, s => match s with
    | .x (.UnaryOp .Not e1 _) => mS M a sc (.x e1)
    | .t (.UnaryOp .Not e1 _) => mS M a sc (.t e1)
    | _ => false
  | M, .ite c a b, sc, s => match s with
    | .x (.IfExp e1 e2 e3 _) => mS M c sc (.t e1) && mS M a sc (.x e2) && mS M b sc (.x e3)
    | _ => false
  | M, .cmp o a b, sc, s => match s with
    | .x (.Compare e1 [p] [e2] _) => opCq o p && !(behindInMarks p e2) && mS M a sc (.x e1) && mS M b sc (.x e2)
    | .t (.Compare e1 [p] [e2] _) => opCq o p && !(behindInMarks p e2) && mS M a sc (.x e1) && mS M b sc (.x e2)
    | _ => false
  | M, .chn o o' a b c, sc, s => match s with
    | .x (.Compare e1 [p, p'] [e2, e3] _) => opCq o p && opCq o' p' && !(lastMarks [p, p'] [e2, e3]) && mS M a sc (.x e1) && mS M b sc (.x e2) && mS M c sc (.x e3)
    | .t (.Compare e1 [p, p'] [e2, e3] _) => opCq o p && opCq o' p' && !(lastMarks [p, p'] [e2, e3]) && mS M a sc (.x e1) && mS M b sc (.x e2) && mS M c sc (.x e3)
    | _ => false
  | M, .tup es, sc, s => chk s fun e => match e with
    | .Tuple xs _ _ => mS M es sc (.l xs)
    | _ => false
  | M, .lst f es, sc, s => chk s fun e => match e with
    | .List xs _ => mS M es sc (.l xs)
    | _ => false
  | M, .dic f es, sc, s => chk s fun e => match e with
    | .Dict ks vs _ => if ks.isEmpty && vs.isEmpty then isNil es else mS M es sc (.d ks vs) && evenL es && ks.all (·.isSome) && decide (ks.length = vs.length) && !ks.isEmpty && decide (ks.length ≤ 15)
    | _ => false
  | M, .idx a i, sc, s => chk s fun e => match e with
    | .Subscript e1 e2 _ => nSlice e2 && mS M a sc (.x e1) && mS M i sc (.x e2)
    | _ => false
  | M, .slc a lo hi, sc, s => chk s fun e => match e with
    | .Subscript e1 (.Slice l h none _) _ => mS M a sc (.x e1) && mS M lo sc (.o l) && mS M hi sc (.o h)
    | _ => false
  | M, .call f es, sc, s => chk s fun e => match e with
    | .Call (.Name x _) (e :: es') [] _ => glB sc x && okN x && (M.fn.lookup x == some f) && (e :: es').all nStar && mS M es sc (.l (e :: es'))
    | _ => false
  | M, .callk f n ks pm a b, sc, s => chk s fun e => match e with
    | .Call (.Name x _) es kws _ => glB sc x && okN x && (M.fn.lookup x == some f) && M.kw.contains (f, n, ks, pm) && decide (kws.map (·.arg) = ks.map some) && es.all nStar && mS M b sc (.k kws) && (if es.isEmpty then isNil a && n == 0 else mS M a sc (.l es))
    | _ => false
  | M, .bi b es, sc, s => chk s fun e => match e with
    | .Call (.Name x _) (e :: es') [] _ => (match biN b with
      | some (id, _) => x == (id : Str)
      | none => false) && glB sc x && okN x && M.no.contains x && (e :: es').all nStar && mS M es sc (.l (e :: es'))
    | _ => false
  | M, .new f b es, sc, s => chk s fun e => match e with
    | .Call (.Name x _) (e :: es') [] _ => (match b with
      | .list => x == ("list" : Str)
      | .sorted => x == ("sorted" : Str)
      | _ => false) && glB sc x && okN x && M.no.contains x && (e :: es').all nStar && mS M es sc (.l (e :: es'))
    | _ => false
  | M, .cat f a b, sc, s => chk s fun e => match e with
    | .BinOp e1 .Add e2 _ => mS M a sc (.x e1) && mS M b sc (.x e2)
    | _ => false
  | M, .cut f a lo hi, sc, s => chk s fun e => match e with
    | .Subscript e1 (.Slice l h none _) _ => mS M a sc (.x e1) && mS M lo sc (.o l) && mS M hi sc (.o h)
    | _ => false
  | M, .mth m a es, sc, s => chk s fun e => match e with
    | .Call (.Attribute o nm apos) es' [] cpos => covM m && (nm == mName m) && nBase o && (apos.endLine == cpos.line) && mS M a sc (.x o) && (if es'.isEmpty then isNil es else es'.all nStar && decide (es'.length < 30) && mS M es sc (.l es'))
    | _ => false
  | M, .isi a ts, sc, s => chk s fun e => match e with
    | .Call (.Name x _) [e1, e2] [] _ => (x == ("isinstance" : Str)) && glB sc x && M.no.contains x && nStar e1 && nStar e2 && mS M a sc (.x e1) && (match e2 with
      | .Tuple es _ _ => tysB M sc ts es && decide (ts.length ≤ SZ) && !ts.isEmpty
      | e2 => match ts with
        | [t] => tyB M sc t e2
        | _ => false)
    | _ => false
  | M, .lc f is it c e, sc, s => chk s fun ex => match ex with
    | .ListComp elt [⟨tg, iter, ifs, 0⟩] scope _ => nSet iter && blkC M.N sc scope (ownOf M.N is) && is.all (fun i => decide (i < M.N.length)) && tgB M.N scope tg is && mS M it sc (.i tg iter) && mS M c (relS scope sc) (.c ifs) && mS M e (relS scope sc) (.x elt)
    | _ => false
  | M, .ing neg a g, sc, s => match s with
    | .x (.Compare e1 [p] [.Name x np] _) => opCq (if neg then .notin else .isin) p && glB sc x && okN x && (M.ct.lookup x == some g) && !(behindInMarks p (.Name x np)) && mS M a sc (.x e1)
    | .t (.Compare e1 [p] [.Name x np] _) => opCq (if neg then .notin else .isin) p && glB sc x && okN x && (M.ct.lookup x == some g) && !(behindInMarks p (.Name x np)) && mS M a sc (.x e1)
    | _ => false
  | M, .fld a f, sc, s => chk s fun e => match e with
    | .Attribute o nm _ => (nm == f) && nBase o && mS M a sc (.x o)
    | _ => false
  | M, .mkx c es, sc, s => chk s fun e => match e with
    | .Call (.Name x _) (e :: es') [] _ => glB sc x && okN x && (M.mx.lookup x == some c) && (e :: es').all nStar && mS M es sc (.l (e :: es'))
    | _ => false
  | M, .mkk c ks pm es, sc, s => chk s fun e => match e with
    | .Call (.Name x _) [] kws _ => glB sc x && okN x && (M.mx.lookup x == some c) && M.kx.contains (c, ks, pm) && decide (kws.map (·.arg) = ks.map some) && mS M es sc (.k kws)
    | _ => false
  | M, .lam f a, sc, s => chk s fun e => match e with
    | .Call (.Name x _) [.Lambda params body scope _] [] _ => glB sc x && okN x && (M.lf.lookup x == some f) && LamX.lamSB sc scope && noPar params && mS { M with lf := [] } a scope (.x body)
    | _ => false
  | M, .bad, sc, s => match s with
    | .x _ => true
    | _ => false
  | M, .nil, sc, s => match s with
    | .l [] => true
    | .k [] => true
    | .o none => true
    | .c [] => true
    | .d [] [] => true
    | _ => false
  | M, .cons a b, sc, s => match s with
    | .l (e :: es) => nStar e && mS M a sc (.x e) && mS M b sc (.l es)
    | .k (⟨_, e, _⟩ :: kws) => mS M a sc (.x e) && mS M b sc (.k kws)
    | .o (some e) => mS M a sc (.x e)
    | .c [e] => mS M a sc (.t e)
    | .i tg e => mS M a sc (.x e)
    | .d (some k :: ks) (v :: vs) => mS M a sc (.x k) && mS M b sc (.dv v ks vs)
    | .dv v ks vs => mS M a sc (.x v) && mS M b sc (.d ks vs)
    | _ => false
  | M, .rng a b, sc, s => match s with
    | .i tg (.Call (.Name x _) es [] _) => (x == ("range" : Str)) && glB sc x && M.no.contains x && (match es with
      | [e] => isZero a && nStar e && mS M b sc (.x e)
      | [e1, e2] => nStar e1 && nStar e2 && mS M a sc (.x e1) && mS M b sc (.x e2)
      | _ => false)
    | _ => false
  | M, .enu a, sc, s => match s with
    | .i tg (.Call (.Name x _) [e] [] _) => isTup tg && (x == ("enumerate" : Str)) && glB sc x && M.no.contains x && nStar e && mS M a sc (.x e)
    | _ => false
  | M, .zip a b, sc, s => match s with
    | .i tg (.Call (.Name x _) [e1, e2] [] _) => isTup tg && (x == ("zip" : Str)) && glB sc x && M.no.contains x && nStar e1 && nStar e2 && mS M a sc (.x e1) && mS M b sc (.x e2)
    | _ => false
  | M, .frz a, sc, s => chk s fun e => mS M a sc (.x e)
end Vm
end

section
/-! V35: what the look at an expression's text gives. -/
namespace Vm
open PySem L2 PySem.Spec PyProof.Rows

section
variable {P : Pg} {n : Nat} {M : MC}
def isBo : Expr → Bool
  | .BoolOp .. => true
  | _ => false
def Good (P : Pg) (n : Nat) (M : MC) (a : Ex) (sc : Scope) : Src → Prop
  | .x e => ∀ T X W, Kn T P n M X → X.env.scope = sc → Takes X W → DE X T W e (evalX (kitOf P n) a)
  | .t e => ∀ T X W, Kn T P n M X → X.env.scope = sc → Takes X W → DT X T W e (evalT (kitOf P n) (.cons a .nil)) ∧ (isBo e = true → DW X T W e (evalT (kitOf P n) (.cons a .nil)))
  | .l es => ∀ T X W, Kn T P n M X → X.env.scope = sc → Takes X W → DA X T W es (evalL (kitOf P n) a)
  | .k kws => ∀ T X W, Kn T P n M X → X.env.scope = sc → Takes X W → DK X T W kws (evalL (kitOf P n) a)
  | .o e => ∀ T X W, Kn T P n M X → X.env.scope = sc → Takes X W → DO X T W e (evalO (kitOf P n) a)
  | .i tg e => ∀ T X W, Kn T P n M X → X.env.scope = sc → Takes X W → DI X T W tg e (evalI (kitOf P n) a)
  | .d ks vs => ∀ T X W pos, Kn T P n M X → X.env.scope = sc → Takes X W → PPs X pos ks vs (trsOf T W (kitOf P n) a)
  | .dv v ks vs => ∃ y r, a = .cons y r ∧ (∀ T X W, Kn T P n M X → X.env.scope = sc → Takes X W → DE X T W v (evalX (kitOf P n) y)) ∧ ∀ T X W pos, Kn T P n M X → X.env.scope = sc → Takes X W → PPs X pos ks vs (trsOf T W (kitOf P n) r)
  | .c ifs => ∀ T X W, Kn T P n M X → X.env.scope = sc → Takes X W → DTs X T W ifs (evalT (kitOf P n) a)
theorem chk_good {a : Ex} {sc : Scope} {s : Src} {f : Expr → Bool} (h : chk s f = true) (g : ∀ e, f e = true → ∀ T X W, Kn T P n M X → X.env.scope = sc → Takes X W → DE X T W e (evalX (kitOf P n) a)) : Good P n M a sc s := by
  unfold chk at h
  split at h
  · exact g _ h
  · rw [Bool.and_eq_true] at h
    intro T X W k e t
    refine ⟨dt_plain k.K (g _ h.1 T X W k e t) (test_ok h.2), fun z => ?_⟩
    rename_i ex
    cases ex <;> first | (cases z; done) | exact absurd h.2 (by simp [nTest])
  · cases h
theorem nmB_pg {N : List Str} {sc : Scope} {e : Expr} {i : Nat} {X : Cx} (h : nmB N sc e i = true) (hN : X.N = N) (nd : N.Nodup) (hs : ∀ x, locB sc x = true → L2.Loc X.env.scope x ∧ (X.fn x = true ∨ X.env.scope.names.lookup x = some .local)) : PG X e (gName i) := by
  unfold nmB at h
  split at h
  · rw [Bool.and_eq_true] at h
    obtain ⟨h1, h2⟩ := hs _ h.2
    exact pg_name (by rw [hN]; exact nd) (by rw [hN]; simpa using h.1) h1 h2
  · cases h
theorem nm_star {N : List Str} {sc : Scope} {e : Expr} {i : Nat} (h : nmB N sc e i = true) : nStar e = true := by
  unfold nmB at h
  split at h
  · rfl
  · cases h
theorem nms_pgs {N : List Str} {sc : Scope} {X : Cx} (hN : X.N = N) (nd : N.Nodup) (hs : ∀ x, locB sc x = true → L2.Loc X.env.scope x ∧ (X.fn x = true ∨ X.env.scope.names.lookup x = some .local)) :
    ∀ {es : List Expr} {is : List Nat}, nmsB N sc es is = true → PGs X es (gNs is) ∧ es.length = is.length ∧ es.all nStar = true
  | [], [], _ => ⟨pgs_nil, rfl, rfl⟩
  | e :: es, i :: is, h => by
    unfold nmsB at h
    rw [Bool.and_eq_true] at h
    obtain ⟨h1, h2, h3⟩ := nms_pgs hN nd hs h.2
    have hst := nm_star h.1
    refine ⟨pgs_cons (nmB_pg h.1 hN nd hs) h1 ?_, by simp [h2], by rw [List.all_cons, hst, h3]; rfl⟩
    have z : assignEach (e :: es) X.env = (false, assign e X.env) :: assignEach es X.env := by
      cases e <;> first | rfl | (exact absurd hst (by simp [nStar]))
    rw [z]
    rfl
  | [], _ :: _, h => by cases h
  | _ :: _, [], h => by cases h
theorem tgB_dg {N : List Str} {sc : Scope} {e : Expr} {is : List Nat} {X : Cx} {T : Tb} (h : tgB N sc e is = true) (hN : X.N = N) (nd : N.Nodup) (hK : X.K = T.K) (hc : X.calm = true) (hs : ∀ x, locB sc x = true → L2.Loc X.env.scope x ∧ (X.fn x = true ∨ X.env.scope.names.lookup x = some .local)) : DG X T e is := by
  unfold tgB at h
  split at h
  · rename_i es k pos
    rw [Bool.and_eq_true, decide_eq_true_eq] at h
    obtain ⟨h1, h2, h3⟩ := nms_pgs hN nd hs h.2
    obtain ⟨h4, h5⟩ := each_all (env := X.env) h3
    exact dg_tup hK hc h1 h.1 (h4.trans h2) h5
  · split at h
    · exact dg_name (nmB_pg h hN nd hs)
    · cases h
theorem blk_loc {scope : Scope} {X : Cx} {s : Shared} {H : Hp} {C : Addr} {cl : List (Str × Addr)} {fp : List Addr} : ∀ x, locB scope x = true → L2.Loc (X.blk s H scope (compEnvC scope cl C X.env) fp).env.scope x ∧ ((X.blk s H scope (compEnvC scope cl C X.env) fp).fn x = true ∨ (X.blk s H scope (compEnvC scope cl C X.env) fp).env.scope.names.lookup x = some .local) := fun x h => by
  unfold locB at h
  split at h
  · rename_i q
    have k : (relS scope X.env.scope).names.lookup x = some .local := lookup_relS_keep (by intro z; cases z) q
    exact ⟨.inl k, .inr k⟩
  · rename_i q
    have k : (relS scope X.env.scope).names.lookup x = some .cell := lookup_relS_keep (by intro z; cases z) q
    refine ⟨.inr k, .inl ?_⟩
    show (scope.names.lookup x == some .cell) = true
    rw [q]; rfl
  · cases h
theorem own_1 {N : List Str} {is : List Nat} : ∀ i ∈ (ownOf N is).map (·.2), i ∈ is := fun i h => by
  obtain ⟨q, h1, rfl⟩ := List.mem_map.mp h
  unfold ownOf at h1
  obtain ⟨j, hj, e⟩ := List.mem_filterMap.mp h1
  cases z : N[j]? with
  | none => rw [z] at e; cases e
  | some x => rw [z] at e; cases e; exact hj
theorem own_2 {N : List Str} {is : List Nat} (h : is.all (fun i => decide (i < N.length)) = true) : ∀ i ∈ is, i ∈ (ownOf N is).map (·.2) := fun i hi => by
  have hl : i < N.length := by simpa using List.all_eq_true.mp h i hi
  refine List.mem_map.mpr ⟨(N[i], i), List.mem_filterMap.mpr ⟨i, hi, by simp [hl]⟩, rfl⟩
theorem ty_pe {X : Cx} {T : Tb} {sc : Scope} {t : Ty} {e : Expr} (k : Kn T P n M X) (hs : X.env.scope = sc) (h : tyB M sc t e = true) : PE X e (tV (tyV1 T.exA t)) := by
  unfold tyB at h
  split at h
  · simp only [Bool.and_eq_true] at h
    exact pv_ref (glB_ok (by rw [hs]; exact h.1.1)) (k.own _ _ (by simpa using h.2)) (okN_1 h.1.2)
  · rename_i t' x _ hne
    simp only [Bool.and_eq_true] at h
    have e0 : tyV1 T.exA t = .ty (tyS t) := by
      cases t <;> first | rfl | (exact absurd h.1.1.1.1.1 (by simp [isB]))
    rw [e0]
    have hx : x = (tyS t : Str) := by simpa using h.1.2
    exact pv_ty (glB_ok (by rw [hs]; exact h.1.1.1.1.2)) (k.no _ h.1.1.2) (by simpa using h.2) (okN_3 h.1.1.1.2) (okN_1 h.1.1.1.2)
  · cases h
theorem tys_pe {X : Cx} {T : Tb} {sc : Scope} (k : Kn T P n M X) (hs : X.env.scope = sc) : ∀ {ts : List Ty} {es : List Expr}, tysB M sc ts es = true → PA X es (tVs (ts.map (tyV1 T.exA)))
  | [], [], _ => pvs_nil
  | t :: ts, e :: es, h => by
    unfold tysB at h
    simp only [Bool.and_eq_true] at h
    exact pvs_cons (ty_pe k hs h.1.1) (tys_pe k hs h.2) (star_cons h.1.2)
  | [], _ :: _, h => by cases h
  | _ :: _, [], h => by cases h
end
end Vm
end

section
/-! V36: .. of every expression. -/
namespace Vm
open PySem L2 PySem.Spec PyProof.Rows

section
variable {P : Pg} {n : Nat} {M : MC}
theorem con_de {X : Cx} {T : Tb} {W : L2.WX} {Kt : Kit} {d : PyData} {c : Const} {k : Nat} {pos : Pos} (h : conB d c = true) : DE X T W (.Constant c k pos) (evalX Kt (.con d)) := by
  unfold conB at h
  split at h
  · exact de_non
  · rw [show _ = _ from eq_of_beq h]; exact de_bl
  · rw [show _ = _ from eq_of_beq h]; exact de_int
  · rw [show _ = _ from eq_of_beq h]; exact de_str
  · cases h
theorem mS_ok (a : Ex) : ∀ (M : MC) (sc : Scope) (s : Src), mS M a sc s = true → Good P n M a sc s := by
  induction a with
  | var i =>
    intro M sc s h
    rw [mS] at h
    refine chk_good h fun e h T X W k hs tk => ?_
    split at h
    · simp only [Bool.and_eq_true] at h
      exact de_var (by rw [k.N]; simpa using h.1.1) (visB_ok (by rw [hs]; exact h.1.2)) (okN_1 h.2) (okN_2 h.2)
    · cases h
  | con d =>
    intro M sc s h
    rw [mS] at h
    refine chk_good h fun e h T X W k hs tk => ?_
    split at h
    · exact con_de h
    · cases h
  | glo g =>
    intro M sc s h
    rw [mS] at h
    refine chk_good h fun e h T X W k hs tk => ?_
    split at h
    · simp only [Bool.and_eq_true] at h
      obtain ⟨u, v, d, h1, h2, h3, h4⟩ := k.co _ _ (by simpa using h.2)
      exact de_glo (glB_ok (by rw [hs]; exact h.1.1)) h1 h2 h3 h4 (okN_1 h.1.2)
    · cases h
  | bin o a b iha ihb =>
    intro M sc s h
    rw [mS] at h
    refine chk_good h fun e h T X W k hs tk => ?_
    split at h
    · simp only [Bool.and_eq_true] at h
      rw [opBq_ok h.1.1]
      exact de_bin k.K (iha M _ _ h.1.2 T X W k hs tk) (ihb M _ _ h.2 T X W k hs tk)
    · cases h
  | neg a iha =>
    intro M sc s h
    rw [mS] at h
    refine chk_good h fun e h T X W k hs tk => ?_
    split at h
    · exact de_neg (iha M _ _ h T X W k hs tk)
    · cases h
  | and a b iha ihb =>
    intro M sc s h
    rw [mS.eq_def] at h
    dsimp only at h
    split at h
    · rename_i e1 e2 rest pos
      rw [Bool.and_eq_true] at h
      intro T X W k hs tk
      have h2 := ihb M _ _ h.2 T X W k hs tk
      cases rest with
      | nil => exact de_and k.K (iha M _ _ h.1 T X W k hs tk) (de_last h2)
      | cons e3 rest => exact de_and k.K (iha M _ _ h.1 T X W k hs tk) h2
    · rename_i e1 e2 rest pos
      rw [Bool.and_eq_true] at h
      intro T X W k hs tk
      have h1 := (iha M _ _ h.1 T X W k hs tk).1
      have h2 := ihb M _ _ h.2 T X W k hs tk
      have key : DW X T W (.BoolOp .And (e1 :: e2 :: rest) pos) (evalT (kitOf P n) (.cons (.and a b) .nil)) := by
        cases rest with
        | nil => exact dw_and h1 (dw_and1 h2.1)
        | cons e3 rest => exact dw_and h1 (h2.2 rfl)
      exact ⟨PW.pt key, fun _ => key⟩
    · cases h
  | or a b iha ihb =>
    intro M sc s h
    rw [mS.eq_def] at h
    dsimp only at h
    split at h
    · rename_i e1 e2 rest pos
      rw [Bool.and_eq_true] at h
      intro T X W k hs tk
      have h2 := ihb M _ _ h.2 T X W k hs tk
      cases rest with
      | nil => exact de_or k.K (iha M _ _ h.1 T X W k hs tk) (de_last h2)
      | cons e3 rest => exact de_or k.K (iha M _ _ h.1 T X W k hs tk) h2
    · rename_i e1 e2 rest pos
      rw [Bool.and_eq_true] at h
      intro T X W k hs tk
      have h1 := (iha M _ _ h.1 T X W k hs tk).1
      have h2 := ihb M _ _ h.2 T X W k hs tk
      have key : DW X T W (.BoolOp .Or (e1 :: e2 :: rest) pos) (evalT (kitOf P n) (.cons (.or a b) .nil)) := by
        cases rest with
        | nil => exact dw_or h1 (dw_or1 h2.1)
        | cons e3 rest => exact dw_or h1 (h2.2 rfl)
      exact ⟨PW.pt key, fun _ => key⟩
    · cases h
  | not a iha =>
    intro M sc s h
    rw [mS.eq_def] at h
    dsimp only at h
    split at h
    · exact fun T X W k hs tk => de_not k.K (iha M _ _ h T X W k hs tk)
    · exact fun T X W k hs tk => ⟨dt_not (iha M _ _ h T X W k hs tk).1, fun z => by cases z⟩
    · cases h
  | ite c a b ihc iha ihb =>
    intro M sc s h
    rw [mS.eq_def] at h
    dsimp only at h
    split at h
    · simp only [Bool.and_eq_true] at h
      exact fun T X W k hs tk => de_ite (ihc M _ _ h.1.1 T X W k hs tk).1 (iha M _ _ h.1.2 T X W k hs tk) (ihb M _ _ h.2 T X W k hs tk)
    · cases h
  | cmp o a b iha ihb =>
    intro M sc s h
    rw [mS.eq_def] at h
    dsimp only at h
    split at h
    · simp only [Bool.and_eq_true, Bool.not_eq_true'] at h
      have e := opCq_ok h.1.1.1
      subst e
      exact fun T X W k hs tk => de_cmp k.K k.hu h.1.1.2 (iha M _ _ h.1.2 T X W k hs tk) (ihb M _ _ h.2 T X W k hs tk)
    · simp only [Bool.and_eq_true, Bool.not_eq_true'] at h
      have e := opCq_ok h.1.1.1
      subst e
      exact fun T X W k hs tk => ⟨dt_cmp k.K k.hu h.1.1.2 (iha M _ _ h.1.2 T X W k hs tk) (ihb M _ _ h.2 T X W k hs tk), fun z => by cases z⟩
    · cases h
  | chn o o' a b c iha ihb ihc =>
    intro M sc s h
    rw [mS.eq_def] at h
    dsimp only at h
    split at h
    · simp only [Bool.and_eq_true, Bool.not_eq_true'] at h
      have e := opCq_ok h.1.1.1.1.1
      have e' := opCq_ok h.1.1.1.1.2
      subst e
      subst e'
      exact fun T X W k hs tk => de_chn k.K k.hu h.1.1.1.2 (iha M _ _ h.1.1.2 T X W k hs tk) (ihb M _ _ h.1.2 T X W k hs tk) (ihc M _ _ h.2 T X W k hs tk)
    · simp only [Bool.and_eq_true, Bool.not_eq_true'] at h
      have e := opCq_ok h.1.1.1.1.1
      have e' := opCq_ok h.1.1.1.1.2
      subst e
      subst e'
      exact fun T X W k hs tk => ⟨dt_chn k.K k.hu h.1.1.1.2 (iha M _ _ h.1.1.2 T X W k hs tk) (ihb M _ _ h.1.2 T X W k hs tk) (ihc M _ _ h.2 T X W k hs tk), fun z => by cases z⟩
    · cases h
  | tup es ih =>
    intro M sc s h
    rw [mS] at h
    refine chk_good h fun e h T X W k hs tk => ?_
    split at h
    · exact de_tup (ih M _ _ h T X W k hs tk)
    · cases h
  | lst f es ih =>
    intro M sc s h
    rw [mS] at h
    refine chk_good h fun e h T X W k hs tk => ?_
    split at h
    · exact de_lst (ih M _ _ h T X W k hs tk)
    · cases h
  | dic f es ih =>
    intro M sc s h
    rw [mS] at h
    refine chk_good h fun e h T X W k hs tk => ?_
    split at h
    · rename_i ks vs pos
      split at h
      · rename_i hz
        rw [Bool.and_eq_true] at hz
        have e1 : ks = [] := List.isEmpty_iff.mp hz.1
        have e2 : vs = [] := List.isEmpty_iff.mp hz.2
        subst e1
        subst e2
        rw [isNil_ok h]
        exact de_dic0
      · simp only [Bool.and_eq_true, decide_eq_true_eq, Bool.not_eq_true'] at h
        exact de_dic (ih M _ _ h.1.1.1.1.1 T X W pos k hs tk) h.1.1.1.1.2 h.1.1.1.2 h.1.1.2 (fun z => by rw [z] at h; simp at h) h.2
    · cases h
  | idx a i iha ihb =>
    intro M sc s h
    rw [mS] at h
    refine chk_good h fun e h T X W k hs tk => ?_
    split at h
    · simp only [Bool.and_eq_true] at h
      exact de_idx k.K k.hu (ix_ok h.1.1) (iha M _ _ h.1.2 T X W k hs tk) (ihb M _ _ h.2 T X W k hs tk)
    · cases h
  | slc a lo hi iha ihb ihc =>
    intro M sc s h
    rw [mS] at h
    refine chk_good h fun e h T X W k hs tk => ?_
    split at h
    · simp only [Bool.and_eq_true] at h
      exact de_slc k.K (iha M _ _ h.1.1 T X W k hs tk) (ihb M _ _ h.1.2 T X W k hs tk) (ihc M _ _ h.2 T X W k hs tk)
    · cases h
  | call f es ih =>
    intro M sc s h
    rw [mS] at h
    refine chk_good h fun e h T X W k hs tk => ?_
    split at h
    · simp only [Bool.and_eq_true] at h
      obtain ⟨fa, fd, ps, hF, hm, hk, hb, _⟩ := k.fn _ _ (by simpa using h.1.1.2)
      have hr := k.room
      have hst := h.1.2
      rw [List.all_cons, Bool.and_eq_true] at hst
      exact de_call hF hr k.gd (glB_ok (by rw [hs]; exact h.1.1.1.1)) hm hk hb tk (ih M _ _ h.2 T X W k hs tk) (okN_1 h.1.1.1.2) (star_cons hst.1) (star_any hst.2)
    · cases h
  | callk f m ks pm a b iha ihb =>
    intro M sc s h
    rw [mS] at h
    refine chk_good h fun e h T X W k hs tk => ?_
    split at h
    · simp only [Bool.and_eq_true, decide_eq_true_eq] at h
      obtain ⟨⟨⟨⟨⟨⟨⟨h1, h2⟩, h3⟩, h4⟩, h5⟩, h6⟩, h7⟩, h8⟩ := h
      obtain ⟨fa, fd, ps, hF, hm, hk, hb, hkw⟩ := k.fn _ _ (by simpa using h3)
      have hr := k.room
      have sg := hkw m ks pm (by simpa using h4)
      rename_i x p es kws pos
      obtain ⟨k1, k2, k3⟩ := kw_ok (X := X) (pos := pos) h5
      cases es with
      | nil =>
        simp only [List.isEmpty_nil, if_true, Bool.and_eq_true, beq_iff_eq] at h8
        have e := isNil_ok h8.1
        subst e
        have e := h8.2
        subst e
        exact de_callk0 hF hr k.gd (glB_ok (by rw [hs]; exact h1)) hm hk sg tk (ihb M _ _ h7 T X W k hs tk) k1 k2 (okN_1 h2) (by rw [k3]; rfl)
      | cons e es =>
        have h8 : mS M a sc (.l (e :: es)) = true := h8
        rw [List.all_cons, Bool.and_eq_true] at h6
        refine de_callk hF hr k.gd (glB_ok (by rw [hs]; exact h1)) hm hk sg tk (iha M _ _ h8 T X W k hs tk) (ihb M _ _ h7 T X W k hs tk) k1 k2 (okN_1 h2) (star_cons h6.1) ?_
        rw [k3, star_any (by rw [List.all_cons, h6.1, h6.2]; rfl)]
        rfl
    · cases h
  | bi b es ih =>
    intro M sc s h
    rw [mS] at h
    refine chk_good h fun e h T X W k hs tk => ?_
    split at h
    · simp only [Bool.and_eq_true] at h
      obtain ⟨⟨⟨⟨⟨h1, h2⟩, h3⟩, h4⟩, h5⟩, h6⟩ := h
      split at h1
      · rename_i id ty hb
        have e := eq_of_beq h1
        subst e
        rw [List.all_cons, Bool.and_eq_true] at h5
        rcases bi_rule (T := T) k.calm k.K k.gd k.hu k.sm hb with ⟨rfl, r, v⟩ | ⟨rfl, r, v⟩
        · exact de_biB r (glB_ok (by rw [hs]; exact h2)) (k.no _ h4) v (ih M _ _ h6 T X W k hs tk) (okN_3 h3) (okN_1 h3) (star_cons h5.1) (star_any h5.2)
        · exact de_biT r (glB_ok (by rw [hs]; exact h2)) (k.no _ h4) v (ih M _ _ h6 T X W k hs tk) (okN_3 h3) (okN_1 h3) (star_cons h5.1) (star_any h5.2)
      · cases h1
    · cases h
  | new f b es ih =>
    intro M sc s h
    rw [mS] at h
    refine chk_good h fun e h T X W k hs tk => ?_
    split at h
    · simp only [Bool.and_eq_true] at h
      obtain ⟨⟨⟨⟨⟨h1, h2⟩, h3⟩, h4⟩, h5⟩, h6⟩ := h
      rw [List.all_cons, Bool.and_eq_true] at h5
      split at h1
      · have e := eq_of_beq h1
        subst e
        exact de_newT (cn_list (T := T) k.calm) (glB_ok (by rw [hs]; exact h2)) (k.no _ h4) (by decide +kernel) (ih M _ _ h6 T X W k hs tk) (okN_3 h3) (okN_1 h3) (star_cons h5.1) (star_any h5.2)
      · have e := eq_of_beq h1
        subst e
        exact de_newB (id := "sorted") rfl (cn_sorted (T := T) k.calm) (glB_ok (by rw [hs]; exact h2)) (k.no _ h4) (by decide +kernel) (ih M _ _ h6 T X W k hs tk) (okN_3 h3) (okN_1 h3) (star_cons h5.1) (star_any h5.2)
      · cases h1
    · cases h
  | cat f a b iha ihb =>
    intro M sc s h
    rw [mS] at h
    refine chk_good h fun e h T X W k hs tk => ?_
    split at h
    · simp only [Bool.and_eq_true] at h
      exact de_cat (iha M _ _ h.1 T X W k hs tk) (ihb M _ _ h.2 T X W k hs tk)
    · cases h
  | cut f a lo hi iha ihb ihc =>
    intro M sc s h
    rw [mS] at h
    refine chk_good h fun e h T X W k hs tk => ?_
    split at h
    · simp only [Bool.and_eq_true] at h
      exact de_cut (iha M _ _ h.1.1 T X W k hs tk) (ihb M _ _ h.1.2 T X W k hs tk) (ihc M _ _ h.2 T X W k hs tk)
    · cases h
  | mth m a es iha ihb =>
    intro M sc s h
    rw [mS] at h
    refine chk_good h fun e h T X W k hs tk => ?_
    split at h
    · simp only [Bool.and_eq_true] at h
      obtain ⟨⟨⟨⟨⟨h1, h2⟩, h3⟩, h4⟩, h5⟩, h6⟩ := h
      rename_i o nm apos es' cpos
      have e := eq_of_beq h2
      subst e
      cases es' with
      | nil =>
        have e := isNil_ok (show isNil es = true from h6)
        subst e
        exact de_mth0 h1 (iha M _ _ h5 T X W k hs tk) (base_ok h3) h4
      | cons e es' =>
        have h6 : ((e :: es').all nStar && decide ((e :: es').length < 30) && mS M es sc (.l (e :: es'))) = true := h6
        simp only [Bool.and_eq_true, decide_eq_true_eq] at h6
        have hst := h6.1.1
        rw [List.all_cons, Bool.and_eq_true] at hst
        exact de_mth h1 (iha M _ _ h5 T X W k hs tk) (ihb M _ _ h6.2 T X W k hs tk) (base_ok h3) (few_ok h6.1.1 h6.1.2) h4 (star_cons hst.1) (star_any hst.2)
    · cases h
  | isi a ts iha =>
    intro M sc s h
    rw [mS] at h
    refine chk_good h fun e h T X W k hs tk => ?_
    split at h
    · simp only [Bool.and_eq_true] at h
      obtain ⟨⟨⟨⟨⟨⟨h1, h2⟩, h3⟩, h4⟩, h5⟩, h6⟩, h7⟩ := h
      have e := eq_of_beq h1
      subst e
      split at h7
      · rename_i es kk tpos
        simp only [Bool.and_eq_true, decide_eq_true_eq, Bool.not_eq_true'] at h7
        cases ts with
        | nil => exact absurd h7.2 (by simp)
        | cons t ts => exact de_isiT k.ow (iha M _ _ h6 T X W k hs tk) (tys_pe k hs h7.1.1) h7.1.2 (glB_ok (by rw [hs]; exact h2)) (k.no _ h3) (star_cons h4) (star_cons h5) (star_any (by rw [List.all_cons, h5]; rfl))
      · split at h7
        · exact de_isi1 k.ow (iha M _ _ h6 T X W k hs tk) (ty_pe k hs h7) (glB_ok (by rw [hs]; exact h2)) (k.no _ h3) (star_cons h4) (star_cons h5) (star_any (by rw [List.all_cons, h5]; rfl))
        · cases h7
    · cases h
  | fld a f iha =>
    intro M sc s h
    rw [mS] at h
    refine chk_good h fun e h T X W k hs tk => ?_
    split at h
    · simp only [Bool.and_eq_true] at h
      have e := eq_of_beq h.1.1
      subst e
      exact de_fld k.ow (iha M _ _ h.2 T X W k hs tk) (base_ok h.1.2)
    · cases h
  | mkx c es ih =>
    intro M sc s h
    rw [mS] at h
    refine chk_good h fun e h T X W k hs tk => ?_
    split at h
    · simp only [Bool.and_eq_true] at h
      obtain ⟨⟨⟨⟨h1, h2⟩, h3⟩, h4⟩, h5⟩ := h
      rw [List.all_cons, Bool.and_eq_true] at h4
      obtain ⟨hm, fI, fd, ps, O, iC, tI, F1, hz, hno, hb, _⟩ := k.mx _ _ (by simpa using h3)
      exact de_mkx (Kt := kitOf P n) (pmk_new O iC tI F1 hz hno (k.room.mono (by omega)) hb (glB_ok (by rw [hs]; exact h1)) hm (ih M _ _ h5 T X W k hs tk) (fun σ H Q Q' q i => q.imp i) (okN_1 h2) (star_cons h4.1) (star_any h4.2))
    · cases h
  | mkk c ks pm es ih =>
    intro M sc s h
    rw [mS] at h
    refine chk_good h fun e h T X W k hs tk => ?_
    split at h
    · simp only [Bool.and_eq_true, decide_eq_true_eq] at h
      obtain ⟨⟨⟨⟨⟨h1, h2⟩, h3⟩, h4⟩, h5⟩, h6⟩ := h
      obtain ⟨hm, fI, fd, ps, O, iC, tI, F1, hz, hno, hb, hkx⟩ := k.mx _ _ (by simpa using h3)
      rename_i x p kws pos
      obtain ⟨k1, k2, k3⟩ := kw_ok (X := X) (pos := pos) h5
      exact de_mkk (Kt := kitOf P n) (pmk_kw O iC tI F1 hz hno (k.room.mono (by omega)) (hkx _ _ (by simpa using h4)) (glB_ok (by rw [hs]; exact h1)) hm O.kC (ih M _ _ h6 T X W k hs tk) k1 k2 (fun σ H Q Q' q i => q.imp i) (okN_1 h2) (by rw [k3]; rfl))
    · cases h
  | lam f a iha =>
    intro M sc s h
    rw [mS] at h
    refine chk_good h fun e h T X W k hs tk => ?_
    split at h
    · simp only [Bool.and_eq_true] at h
      obtain ⟨⟨⟨⟨⟨h1, h2⟩, h3⟩, h4⟩, h5⟩, h6⟩ := h
      have e := noPar_eq h5
      subst e
      have L : LamX.LamS X.env.scope _ := LamX.lamS_by (by rw [hs]; exact h4)
      refine de_lam (k.lam _ _ (by simpa using h3)) (glB_ok (by rw [hs]; exact h1)) (okN_1 h2) L rfl (fun q cl pm cv ctv => rfl) fun E A outer s H f c' hg hr => ?_
      exact iha { M with lf := [] } _ _ h6 T _ _ (k.lamb A outer s H E _ f c' hg hr) rfl (takes_of rfl rfl rfl rfl)
    · cases h
  | lc f is it c e ihi ihc ihe =>
    intro M sc s h
    rw [mS] at h
    refine chk_good h fun ex h T X W k hs tk => ?_
    split at h
    · simp only [Bool.and_eq_true] at h
      obtain ⟨⟨⟨⟨⟨⟨h1, h2⟩, h3⟩, h4⟩, h5⟩, h6⟩, h7⟩ := h
      refine de_lc k.calm (by rw [k.N]; exact k.nd) (ihi M _ _ h5 T X W k hs tk) (blkOk_by (by rw [k.N, hs]; exact h2)) own_1 (own_2 h3) (fun G s H C cl fp => ?_) (fun G s H C cl fp => ?_) (fun G s H C cl fp => ?_) (fold_ok h1)
      · exact tgB_dg h4 k.N k.nd k.K k.calm blk_loc
      · exact ihc M _ _ h6 _ _ _ ((k.blk s H _ C cl fp).wG G) (by rw [← hs]; rfl) takes_blk
      · exact ihe M _ _ h7 _ _ _ ((k.blk s H _ C cl fp).wG G) (by rw [← hs]; rfl) takes_blk
    · cases h
  | rng a b iha ihb =>
    intro M sc s h
    rw [mS.eq_def] at h
    dsimp only at h
    split at h
    · simp only [Bool.and_eq_true] at h
      obtain ⟨⟨⟨h1, h2⟩, h3⟩, h4⟩ := h
      have e := eq_of_beq h1
      subst e
      intro T X W k hs tk
      split at h4
      · simp only [Bool.and_eq_true] at h4
        rw [isZero_ok h4.1.1]
        exact di_rng1 (glB_ok (by rw [hs]; exact h2)) (k.no _ h3) (da_cons (ihb M _ _ h4.2 T X W k hs tk) da_nil (star_cons h4.1.2)) (by rw [star_cons h4.1.2]; rfl)
      · simp only [Bool.and_eq_true] at h4
        exact di_rng2 (glB_ok (by rw [hs]; exact h2)) (k.no _ h3) (da_cons (iha M _ _ h4.1.2 T X W k hs tk) (da_cons (ihb M _ _ h4.2 T X W k hs tk) da_nil (star_cons h4.1.1.2)) (star_cons h4.1.1.1)) (by rw [star_cons h4.1.1.1, star_cons h4.1.1.2]; rfl) (by rw [star_cons h4.1.1.2]; rfl)
      · cases h4
    · cases h
  | enu a iha =>
    intro M sc s h
    rw [mS.eq_def] at h
    dsimp only at h
    split at h
    · rename_i tg x p e q
      simp only [Bool.and_eq_true] at h
      obtain ⟨⟨⟨⟨⟨h0, h1⟩, h2⟩, h3⟩, h4⟩, h5⟩ := h
      have ee := eq_of_beq h1
      subst ee
      cases tg <;> first | (cases h0; done) | skip
      exact fun T X W k hs tk => di_enu k.K (glB_ok (by rw [hs]; exact h2)) (k.no _ h3) (iha M _ _ h5 T X W k hs tk) (by rw [star_cons h4]; rfl) (star_cons h4)
    · cases h
  | zip a b iha ihb =>
    intro M sc s h
    rw [mS.eq_def] at h
    dsimp only at h
    split at h
    · rename_i tg x p e1 e2 q
      simp only [Bool.and_eq_true] at h
      obtain ⟨⟨⟨⟨⟨⟨⟨h0, h1⟩, h2⟩, h3⟩, h4⟩, h5⟩, h6⟩, h7⟩ := h
      have ee := eq_of_beq h1
      subst ee
      cases tg <;> first | (cases h0; done) | skip
      exact fun T X W k hs tk => di_zip k.K (glB_ok (by rw [hs]; exact h2)) (k.no _ h3) (iha M _ _ h6 T X W k hs tk) (ihb M _ _ h7 T X W k hs tk) (star_cons h4) (star_cons h5) (star_any (by rw [List.all_cons, h5]; rfl))
    · cases h
  | frz a iha =>
    intro M sc s h
    rw [mS] at h
    refine chk_good h fun e h T X W k hs tk => ?_
    exact de_frz (iha M sc (.x e) h T X W k hs tk)
  | ing neg a g iha =>
    intro M sc s h
    rw [mS.eq_def] at h
    dsimp only at h
    split at h
    · simp only [Bool.and_eq_true, Bool.not_eq_true'] at h
      obtain ⟨⟨⟨⟨⟨h1, h2⟩, h3⟩, h4⟩, h5⟩, h6⟩ := h
      intro T X W k hs tk
      obtain ⟨q, xs, ds, k1, k2, k3, k4⟩ := k.ct _ _ (by simpa using h4)
      have e := opCq_ok h1
      subst e
      cases neg with
      | false => exact de_ing (u := .none) (neg := false) k.K (iha M _ _ h6 T X W k hs tk) (glB_ok (by rw [hs]; exact h2)) k1 (okN_1 h3) k2 k3 k4 h5
      | true => exact de_ing (u := .none) (neg := true) k.K (iha M _ _ h6 T X W k hs tk) (glB_ok (by rw [hs]; exact h2)) k1 (okN_1 h3) k2 k3 k4 h5
    · simp only [Bool.and_eq_true, Bool.not_eq_true'] at h
      obtain ⟨⟨⟨⟨⟨h1, h2⟩, h3⟩, h4⟩, h5⟩, h6⟩ := h
      intro T X W k hs tk
      obtain ⟨q, xs, ds, k1, k2, k3, k4⟩ := k.ct _ _ (by simpa using h4)
      have e := opCq_ok h1
      subst e
      cases neg with
      | false => exact ⟨dt_ing (neg := false) k.K (iha M _ _ h6 T X W k hs tk) (glB_ok (by rw [hs]; exact h2)) k1 (okN_1 h3) k2 k3 k4 h5, fun z => by cases z⟩
      | true => exact ⟨dt_ing (neg := true) k.K (iha M _ _ h6 T X W k hs tk) (glB_ok (by rw [hs]; exact h2)) k1 (okN_1 h3) k2 k3 k4 h5, fun z => by cases z⟩
    · cases h
  | bad =>
    intro M sc s h
    rw [mS.eq_def] at h
    dsimp only at h
    split at h
    · exact fun T X W k hs tk => de_bad
    · cases h
  | nil =>
    intro M sc s h
    rw [mS.eq_def] at h
    dsimp only at h
    split at h
    · exact fun T X W k hs tk => da_nil
    · exact fun T X W k hs tk => dk_nil
    · exact fun T X W k hs tk => do_nil
    · exact fun T X W k hs tk => dts_nil
    · exact fun T X W pos k hs tk => dps_nil
    · cases h
  | cons a b iha ihb =>
    intro M sc s h
    rw [mS.eq_def] at h
    dsimp only at h
    split at h
    · simp only [Bool.and_eq_true] at h
      exact fun T X W k hs tk => da_cons (iha M _ _ h.1.2 T X W k hs tk) (ihb M _ _ h.2 T X W k hs tk) (star_cons h.1.1)
    · simp only [Bool.and_eq_true] at h
      exact fun T X W k hs tk => dk_cons (iha M _ _ h.1 T X W k hs tk) (ihb M _ _ h.2 T X W k hs tk)
    · exact fun T X W k hs tk => do_some (iha M _ _ h T X W k hs tk)
    · exact fun T X W k hs tk => dts_one (dt_eq (iha M _ _ h T X W k hs tk).1 fun env st => by rw [evalT, evalT])
    · exact fun T X W k hs tk => di_cons k.K (iha M _ _ h T X W k hs tk)
    · simp only [Bool.and_eq_true] at h
      obtain ⟨y, r, rfl, h1, h2⟩ := ihb M _ _ h.2
      exact fun T X W pos k hs tk => dps_cons (fun G => iha M _ _ h.1 _ X W (k.wG G) hs tk) (fun G => h1 _ X W (k.wG G) hs tk) (h2 T X W pos k hs tk)
    · simp only [Bool.and_eq_true] at h
      exact ⟨a, b, rfl, fun T X W k hs tk => iha M _ _ h.1 T X W k hs tk, fun T X W pos k hs tk => ihb M _ _ h.2 T X W pos k hs tk⟩
    · cases h
end
end Vm
end

section
/-! V37: the text of statements against their tree. -/
namespace Vm
open PySem L2 PySem.Spec PyProof.Rows

/-- what a = of tuples stores -/
def swP (ts vs : List Expr) (sc : Scope) : Option (Option (List Str)) :=
  if !(ts.length == 2 || ts.length == 3) || vs.length != ts.length then some none
  else if !(vs.all nStar) then none
  else
    let line := (ts.head?.map (·.pos.line)).getD 0
    let names := ts.filterMap fun
      | .Name id pos => if sc.names.lookup id == some .local && pos.line == line then some id else none
      | _ => none
    if names.length != ts.length || names.eraseDups.length != names.length then some none
    else if vs.all (foldedForSure 8) then some none
    else if vs.all (constantsAlone 8) then none
    else some (some names)
theorem swP_ok {ts vs : List Expr} {sc : Scope} {env : PySem.Env} {r : Option (List Str)} {k k2 : Nat} {p p2 : Pos} (hs : env.scope = sc) (hk : sc.kind = .function) (h : swP ts vs sc = some r) : swappedStores [.Tuple ts k p] (.Tuple vs k2 p2) env = pure r := by
  have hb : env.blockKind = .function := by unfold Env.blockKind; rw [hs, hk]; rfl
  subst hs
  unfold swP at h
  unfold swappedStores
  simp only [hb]
  by_cases c1 : (!(ts.length == 2 || ts.length == 3) || vs.length != ts.length) = true
  · rw [if_pos c1] at h
    cases h
    rw [if_pos (by rw [c1]; rfl)]
  · rw [if_neg c1] at h
    have c1' : (!(ts.length == 2 || ts.length == 3) || vs.length != ts.length) = false := by simpa using c1
    rw [if_neg (by rw [c1']; decide)]
    by_cases c2 : (!(vs.all nStar)) = true
    · rw [if_pos c2] at h; cases h
    · rw [if_neg c2] at h
      have c2' : vs.all nStar = true := by simpa using c2
      split
      · rename_i z
        exfalso
        obtain ⟨e, he, ze⟩ := List.any_eq_true.mp z
        have := List.all_eq_true.mp c2' e he
        cases e <;> first | (cases ze; done) | (exact absurd this (by simp [nStar]))
      · split
        · rename_i c3
          dsimp only at h
          split at h
          · cases h
            rfl
          · rename_i c3'
            exact absurd c3 c3'
        · rename_i c3
          dsimp only at h
          split at h
          · rename_i c3'
            exact absurd c3' c3
          · split
            · rename_i c4
              rw [if_pos c4] at h
              cases h
              rfl
            · rename_i c4
              rw [if_neg c4] at h
              split
              · rename_i c5
                rw [if_pos c5] at h
                cases h
              · rename_i c5
                rw [if_neg c5] at h
                cases h
                rfl
def lcB (sc scope : Scope) (y : Str) (py pos : Pos) : Bool := (sc.names.lookup y == some .local) && (py.line == pos.line) && !(scope.names.any fun (n, k) => n == y && (k == .local || k == .cell))
theorem sw_false {elt : Expr} {gs : List Comprehension} {scope : Scope} {pos py : Pos} {y : Str} {l : Nat} {env : PySem.Env} (h : env.kindOf y ≠ some .local) : swapsWith (.ListComp elt gs scope pos) (some (.Name y py)) l env = pure false := by
  unfold swapsWith
  have : (env.kindOf y == some .local) = false := by
    cases q : env.kindOf y with
    | none => rfl
    | some k => cases k <;> first | rfl | exact absurd q h
  simp only [this, Bool.and_false, Bool.false_and]
def ndN : List Nat → Bool
  | [] => true
  | i :: is => !(is.contains i) && ndN is
/-- an assignment -/
def asgB (M : MC) (sc : Scope) (t : Lv) (x : Ex) (tg v : Expr) (pos : Pos) : Bool := match t with
  | .n i => nmB M.N sc tg i && (match v with
    | .ListComp elt [⟨tg', iter, ifs, 0⟩] scope cp => (match x, tg with
      | .lc f is it c e, .Name y py => if sc.names.lookup y == some .local then lcB sc scope y py cp && mS M x sc (.x v) && nSet iter && blkC M.N sc scope (ownOf M.N is) && is.all (fun i => decide (i < M.N.length)) && tgB M.N scope tg' is && mS M it sc (.i tg' iter) && mS M c (relS scope sc) (.c ifs) && mS M e (relS scope sc) (.x elt) else mS M x sc (.x v)
      | _, _ => false)
    | v => nComp v && mS M x sc (.x v))
  | .t is => tgB M.N sc tg is && isTup tg && (match v with
    | .Tuple vs _ _ => (match tg with
      | .Tuple ts _ _ => (match swP ts vs sc with
        | some none => mS M x sc (.x v)
        | some (some _) => (match x with
          | .tup es => ndN is && mS M es sc (.l vs) && (ts.all fun e => match e with
            | .Name y _ => sc.names.lookup y == some .local
            | _ => false) && decide (ts.length = vs.length) && decide (swP ts vs sc = some (some (ts.filterMap fun e => match e with
            | .Name y _ => some y
            | _ => none)))
          | _ => false)
        | none => false)
      | _ => false)
    | v => nComp v && mS M x sc (.x v))
  | .sub a i => (match tg with
    | .Subscript o ie _ => nSlice ie && nComp v && mS M x sc (.x v) && mS M a sc (.x o) && mS M i sc (.x ie)
    | _ => false)
  | .fld _ _ => false
def unCons : Ex → Option Ex
  | .cons c .nil => some c
  | _ => none
theorem unCons_ok {x c : Ex} (h : unCons x = some c) : x = .cons c .nil := by
  unfold unCons at h
  split at h
  · cases h; rfl
  · cases h
def tstB (M : MC) (sc : Scope) (x : Ex) (t : Expr) : Bool := match unCons x with
  | some c => mS M c sc (.t t)
  | none => false
/-- a local name -/
def locL (sc : Scope) (x : Str) : Bool := match sc.names.lookup x with
  | some .local => true
  | _ => false
theorem locL_ok {sc : Scope} {x : Str} (h : locL sc x = true) : sc.names.lookup x = some .local := by
  unfold locL at h
  split at h
  · assumption
  · cases h
/-- a def's own frame -/
def FrmX (X : Cx) : Prop := X.ex = [] ∧ X.stack = X.env :: X.outer ∧ X.env.frame = some X.env.locals
def mB (M : MC) (sc : Scope) : Sm → List Stmt → Bool
  | .skip, ss => match ss with
    | [] => true
    | [.Pass _] => true
    | _ => false
  | .seq a b, ss => match ss with
    | s :: s2 :: ss => mB M sc a [s] && mB M sc b (s2 :: ss)
    | _ => false
  | .asg t x, ss => match ss with
    | [.Assign [tg] v pos] => asgB M sc t x tg v pos
    | _ => false
  | .ex x, ss => match ss with
    | [.Expr v pos] => nComp v && mS M x sc (.x v)
    | _ => false
  | .ret x, ss => match ss with
    | [.Return (some v) _] => mS M x sc (.x v)
    | [.Return none _] => (match x with
      | .con .none => true
      | _ => false)
    | _ => false
  | .ife x a b, ss => match ss with
    | [.If t p q _] => tstB M sc x t && mB M sc a p && mB M sc b q
    | _ => false
  | .whl x a, ss => match ss with
    | [.While t p [] _] => tstB M sc x t && mB M sc a p
    | _ => false
  | .for_ is it b, ss => match ss with
    | [.For tg iter p [] _] => mS M it sc (.i tg iter) && tgB M.N sc tg is && nSet iter && mB M sc b p
    | _ => false
  | .brk, ss => match ss with
    | [.Break _] => true
    | _ => false
  | .cnt, ss => match ss with
    | [.Continue _] => true
    | _ => false
  | .bad, ss => match ss with
    | [_] => true
    | _ => false
  | .rse c es, ss => match ss with
    | [.Raise (some (.Call (.Name x _) (e :: es') [] _)) none _] => glB sc x && okN x && (M.mx.lookup x == some c) && (e :: es').all nStar && mS M es sc (.l (e :: es'))
    | _ => false
  | .tr b c n h, ss => match ss with
    | [.Try body [.ExceptHandler (some (.Name x _)) (some n') [.Assign [.Name y _] (.Name n'' _) _] _] [] [] _] => glB sc x && okN x && (M.ow.lookup x == some c) && (n'' == n') && locL sc n' && locL sc y && nmOk n' && (match n, h with
      | some i, .asg (.n j) (.var i') => (i == i') && (M.N[i]? == some n') && (M.N[j]? == some y)
      | _, _ => false) && mB M sc b body
    | [.Try body [.ExceptHandler (some (.Name x _)) none [.Assign [.Name y _] (.BinOp (.Name y' _) .Add (.Constant (.int v) _ _) _) _] _] [] [] _] => glB sc x && okN x && (M.ow.lookup x == some c) && (y' == y) && locL sc y && nmOk y && (match n, h with
      | none, .asg (.n j) (.bin .add (.var j') (.con (.int v'))) => (j == j') && (v == v') && (M.N[j]? == some y)
      | _, _ => false) && mB M sc b body
    | _ => false
  | .trn b, ss => match ss with
    | [.Try body (_ :: _) [] [] _] => mB M sc b body
    | _ => false
section
variable {P : Pg} {n : Nat} {M : MC} {T : Tb} {X : Cx} {W : L2.WX} {sc : Scope} {fl : Nat → List Str}
theorem tst_ok {x : Ex} {t : Expr} (k : Kn T P n M X) (hs : X.env.scope = sc) (tk : Takes X W) (h : tstB M sc x t = true) : DT X T W t (evalT (kitOf P n) x) := by
  unfold tstB at h
  split at h
  · rename_i c hc
    rw [unCons_ok hc]
    exact (mS_ok c _ sc (.t t) h T X W k hs tk).1
  · cases h
theorem def_loc (hs : X.env.scope = sc) (hf : ∀ x, X.fn x = true) : ∀ x, locB sc x = true → L2.Loc X.env.scope x ∧ (X.fn x = true ∨ X.env.scope.names.lookup x = some .local) := fun x h => ⟨by rw [hs]; exact locB_ok h, .inl (hf x)⟩
theorem asg_ok {t : Lv} {x : Ex} {tg v : Expr} {pos : Pos} (k : Kn T P n M X) (hs : X.env.scope = sc) (hk : sc.kind = .function) (hf : ∀ x, X.fn x = true) (tk : Takes X W) (h : asgB M sc t x tg v pos = true) : DS X T W (.Assign [tg] v pos) (execS (kitOf P n) fl (.asg t x)) := by
  have loc := def_loc hs hf
  have hN : X.N.Nodup := by rw [k.N]; exact k.nd
  unfold asgB at h
  split at h
  · rename_i i
    rw [Bool.and_eq_true] at h
    obtain ⟨h1, h⟩ := h
    have g1 := nmB_pg h1 k.N k.nd loc
    have g2 : (assignEach [tg] X.env).map (·.2) = [assign tg X.env] := each_one (nm_star h1)
    split at h
    · rename_i elt tg' iter ifs scope cp
      split at h
      · rename_i f is it c e y py
        split at h
        · rename_i hl
          simp only [Bool.and_eq_true] at h
          obtain ⟨⟨⟨⟨⟨⟨⟨⟨h0, _⟩, h2⟩, h3⟩, h4⟩, h5⟩, h6⟩, h7⟩, h8⟩ := h
          have hl : sc.names.lookup y = some .local := by simpa using hl
          unfold lcB at h0
          simp only [Bool.and_eq_true, Bool.not_eq_true'] at h0
          have hi : X.N[i]? = some y := by
            unfold nmB at h1
            simp only [Bool.and_eq_true] at h1
            rw [k.N]
            simpa using h1.1
          refine ds_setLc k.calm hN hi (by rw [hs]; exact hl) (sw_true (by rw [hs]; exact hk) (by rw [hs]; exact hl) h0.1.2 h0.2) (mS_ok it _ sc _ h6 T X W k hs tk) (blkOk_by (by rw [k.N, hs]; exact h3)) own_1 (own_2 h4) (fun G s H C cl fp => ?_) (fun G s H C cl fp => ?_) (fun G s H C cl fp => ?_) (fold_ok h2)
          · exact tgB_dg h5 k.N k.nd k.K k.calm blk_loc
          · exact mS_ok c _ _ _ h7 _ _ _ ((k.blk s H _ C cl fp).wG G) (by rw [← hs]; rfl) takes_blk
          · exact mS_ok e _ _ _ h8 _ _ _ ((k.blk s H _ C cl fp).wG G) (by rw [← hs]; rfl) takes_blk
        · rename_i hl
          have hl : X.env.kindOf y ≠ some .local := fun z => hl (by rw [← hs]; unfold Env.kindOf at z; rw [z]; rfl)
          exact ds_asgN (mS_ok _ _ sc _ h T X W k hs tk) g1 (show swapsWith (.ListComp elt [⟨tg', iter, ifs, 0⟩] scope cp) (some (.Name y py)) pos.line X.env = pure false from sw_false hl) stores_ok1 g2
      · cases h
    · simp only [Bool.and_eq_true] at h
      have ht : ∃ y p, tg = .Name y p := by
        unfold nmB at h1
        split at h1
        · exact ⟨_, _, rfl⟩
        · cases h1
      obtain ⟨y, p, rfl⟩ := ht
      exact ds_asgN (mS_ok _ _ sc _ h.2 T X W k hs tk) g1 (sole_ok h.1) stores_ok1 g2
  · rename_i is
    simp only [Bool.and_eq_true] at h
    obtain ⟨⟨h1, h2⟩, h⟩ := h
    have g1 : DG X T tg is := tgB_dg h1 k.N k.nd k.K k.calm loc
    cases tg <;> first | (cases h2; done) | skip
    rename_i ts tk' tp
    have g2 : (assignEach [Expr.Tuple ts tk' tp] X.env).map (·.2) = [assign (.Tuple ts tk' tp) X.env] := each_one rfl
    split at h
    · rename_i vs vk vp
      simp only at h
      split at h
      · rename_i hsw
        exact ds_asgT (mS_ok _ _ sc _ h T X W k hs tk) g1 (sole_ok rfl) (swP_ok hs hk hsw) g2
      · rename_i nms hsw
        split at h
        · rename_i es
          simp only [Bool.and_eq_true, decide_eq_true_eq] at h
          obtain ⟨⟨⟨⟨h3, h4⟩, h5⟩, h6⟩, h7⟩ := h
          have sw := swP_ok (k := tk') (k2 := vk) (p := tp) (p2 := vp) hs hk h7
          have da := mS_ok es _ sc _ h4 T X W k hs tk
          have hn : nmsB M.N sc ts is = true := by
            unfold tgB at h1
            simp only [Bool.and_eq_true] at h1
            exact h1.2
          have nm : ∀ {e : Expr} {i : Nat}, nmB M.N sc e i = true → (match e with | .Name y _ => sc.names.lookup y == some .local | _ => false) = true → ∃ y p, e = .Name y p ∧ X.N[i]? = some y ∧ X.env.scope.names.lookup y = some .local := fun {e i} a b => by
            unfold nmB at a
            split at a
            · rename_i y p
              rw [Bool.and_eq_true] at a
              exact ⟨y, p, rfl, by rw [k.N]; simpa using a.1, by rw [hs]; simpa using b⟩
            · cases a
          have hl : ts.length = is.length := (nms_pgs (X := X) k.N k.nd loc hn).2.1
          have no0 : ∀ {o}, swP ts vs sc = some (some o) → ts.length = 2 ∨ ts.length = 3 := fun {o} z => by
            unfold swP at z
            split at z
            · cases z
            · rename_i c
              simp at c
              exact Decidable.or_iff_not_imp_left.mpr c.1
          have l23 := no0 hsw
          rcases l23 with l2 | l3
          · obtain ⟨t1, t2, rfl⟩ : ∃ a b, ts = [a, b] := by
              match ts, l2 with
              | [a, b], _ => exact ⟨a, b, rfl⟩
            obtain ⟨i, j, rfl⟩ : ∃ a b, is = [a, b] := by
              match is, hl with
              | [a, b], _ => exact ⟨a, b, rfl⟩
            obtain ⟨v1, v2, rfl⟩ : ∃ a b, vs = [a, b] := by
              match vs, h6 with
              | [a, b], _ => exact ⟨a, b, rfl⟩
            simp only [nmsB, Bool.and_eq_true, Bool.and_true] at hn
            simp only [List.all_cons, List.all_nil, Bool.and_eq_true, Bool.and_true] at h5
            obtain ⟨y1, p1, rfl, a1, b1⟩ := nm hn.1 h5.1
            obtain ⟨y2, p2, rfl, a2, b2⟩ := nm hn.2 h5.2
            simp [ndN] at h3
            exact ds_par2 k.calm hN a1 a2 (fun e => h3 e) b1 b2 da sw
          · obtain ⟨t1, t2, t3, rfl⟩ : ∃ a b c, ts = [a, b, c] := by
              match ts, l3 with
              | [a, b, c], _ => exact ⟨a, b, c, rfl⟩
            obtain ⟨i, j, l, rfl⟩ : ∃ a b c, is = [a, b, c] := by
              match is, hl with
              | [a, b, c], _ => exact ⟨a, b, c, rfl⟩
            obtain ⟨v1, v2, v3, rfl⟩ : ∃ a b c, vs = [a, b, c] := by
              match vs, h6 with
              | [a, b, c], _ => exact ⟨a, b, c, rfl⟩
            simp only [nmsB, Bool.and_eq_true, Bool.and_true] at hn
            simp only [List.all_cons, List.all_nil, Bool.and_eq_true, Bool.and_true] at h5
            obtain ⟨y1, p1, rfl, a1, b1⟩ := nm hn.1 h5.1
            obtain ⟨y2, p2, rfl, a2, b2⟩ := nm hn.2.1 h5.2.1
            obtain ⟨y3, p3, rfl, a3, b3⟩ := nm hn.2.2 h5.2.2
            simp [ndN] at h3
            exact ds_par3 k.calm hN a1 a2 a3 (fun e => h3.1.1 e) (fun e => h3.1.2 e) (fun e => h3.2 e) b1 b2 b3 da sw
        · cases h
      · cases h
    · simp only [Bool.and_eq_true] at h
      rename_i hne
      refine ds_asgT (mS_ok _ _ sc _ h.2 T X W k hs tk) g1 (sole_ok h.1) (stores_ok ?_) g2
      cases v <;> first | rfl | exact absurd rfl (hne _ _ _)
  · split at h
    · rename_i a i o ie tpos
      simp only [Bool.and_eq_true] at h
      obtain ⟨⟨⟨⟨h1, h2⟩, h3⟩, h4⟩, h5⟩ := h
      exact ds_sub k.hu (mS_ok _ _ sc _ h3 T X W k hs tk) (mS_ok _ _ sc _ h4 T X W k hs tk) (mS_ok _ _ sc _ h5 T X W k hs tk) (by cases ie <;> first | (exact fun v => rfl) | cases h1) (sole_ok h2) stores_ok2 (each_one rfl)
    · cases h
  · cases h
theorem mB_ok (m : Sm) : ∀ (ss : List Stmt), mB M sc m ss = true → ∀ (T : Tb) (X : Cx) (W : L2.WX), Kn T P n M X → X.env.scope = sc → sc.kind = .function → (∀ x, X.fn x = true) → FrmX X → Takes X W → PassesOwn (model X.prog X.w) X.A X.env X.xe → DSs X T W ss (execS (kitOf P n) P.fields m) ∧ ∀ s, ss = [s] → DS X T W s (execS (kitOf P n) P.fields m) := by
  have one : ∀ {X : Cx} {T : Tb} {W : L2.WX} {s : Stmt} {m : Sm}, DS X T W s (execS (kitOf P n) P.fields m) → DSs X T W [s] (execS (kitOf P n) P.fields m) ∧ ∀ s', [s] = [s'] → DS X T W s' (execS (kitOf P n) P.fields m) := fun {X T W s m} h => ⟨ds_one h, fun s' e => by cases e; exact h⟩
  induction m with
  | skip =>
    intro ss h T X W k hs hk hf fr tk hp
    rw [mB.eq_def] at h
    dsimp only at h
    split at h
    · exact ⟨ds_skip, fun s e => by cases e⟩
    · exact one ds_pass
    · cases h
  | seq a b iha ihb =>
    intro ss h T X W k hs hk hf fr tk hp
    rw [mB.eq_def] at h
    dsimp only at h
    split at h
    · rw [Bool.and_eq_true] at h
      have h1 := iha _ h.1 T X W k hs hk hf fr tk hp
      exact ⟨ds_cons (h1.2 _ rfl) (ihb _ h.2 T X W k hs hk hf fr tk hp).1, fun s e => by cases e⟩
    · cases h
  | asg t x =>
    intro ss h T X W k hs hk hf fr tk hp
    rw [mB.eq_def] at h
    dsimp only at h
    split at h
    · exact one (asg_ok k hs hk hf tk h)
    · cases h
  | ex x =>
    intro ss h T X W k hs hk hf fr tk hp
    rw [mB.eq_def] at h
    dsimp only at h
    split at h
    · rw [Bool.and_eq_true] at h
      exact one (ds_ex (mS_ok _ _ sc _ h.2 T X W k hs tk) (swaps_ok h.1))
    · cases h
  | ret x =>
    intro ss h T X W k hs hk hf fr tk hp
    rw [mB.eq_def] at h
    dsimp only at h
    split at h
    · exact one (ds_ret (mS_ok _ _ sc _ h T X W k hs tk))
    · split at h
      · exact one ds_retN
      · cases h
    · cases h
  | ife x a b iha ihb =>
    intro ss h T X W k hs hk hf fr tk hp
    rw [mB.eq_def] at h
    dsimp only at h
    split at h
    · simp only [Bool.and_eq_true] at h
      exact one (ds_if (tst_ok k hs tk h.1.1) (iha _ h.1.2 T X W k hs hk hf fr tk hp).1 (ihb _ h.2 T X W k hs hk hf fr tk hp).1)
    · cases h
  | whl x a iha =>
    intro ss h T X W k hs hk hf fr tk hp
    rw [mB.eq_def] at h
    dsimp only at h
    split at h
    · simp only [Bool.and_eq_true] at h
      exact one (ds_while hp (tst_ok k hs tk h.1) (iha _ h.2 T X W k hs hk hf fr tk hp).1)
    · cases h
  | for_ is it b ihb =>
    intro ss h T X W k hs hk hf fr tk hp
    rw [mB.eq_def] at h
    dsimp only at h
    split at h
    · simp only [Bool.and_eq_true] at h
      exact one (ds_for hp k.calm (mS_ok _ _ sc _ h.1.1.1 T X W k hs tk) (tgB_dg h.1.1.2 k.N k.nd k.K k.calm (def_loc hs hf)) (ihb _ h.2 T X W k hs hk hf fr tk hp).1 (fold_ok h.1.2))
    · cases h
  | brk =>
    intro ss h T X W k hs hk hf fr tk hp
    rw [mB.eq_def] at h
    dsimp only at h
    split at h
    · exact one ds_brk
    · cases h
  | cnt =>
    intro ss h T X W k hs hk hf fr tk hp
    rw [mB.eq_def] at h
    dsimp only at h
    split at h
    · exact one ds_cnt
    · cases h
  | bad =>
    intro ss h T X W k hs hk hf fr tk hp
    rw [mB.eq_def] at h
    dsimp only at h
    split at h
    · exact one ds_bad
    · cases h
  | rse c es =>
    intro ss h T X W k hs hk hf fr tk hp
    rw [mB.eq_def] at h
    dsimp only at h
    split at h
    · simp only [Bool.and_eq_true] at h
      obtain ⟨⟨⟨⟨h1, h2⟩, h3⟩, h4⟩, h5⟩ := h
      rw [List.all_cons, Bool.and_eq_true] at h4
      obtain ⟨hm, fI, fd, ps, O, iC, tI, F1, hz, hno, hb, _⟩ := k.mx _ _ (by simpa using h3)
      exact one (ds_rse k.calm tk (pmk_new O iC tI F1 hz hno (k.room.mono (by omega)) hb (glB_ok (by rw [hs]; exact h1)) hm (mS_ok _ _ _ _ h5 T X W k hs tk) (fun σ H Q Q' q i => q.imp i) (okN_1 h2) (star_cons h4.1) (star_any h4.2)))
    · cases h
  | tr b c n' h' ihb ihh =>
    intro ss h T X W k hs hk hf fr tk hp
    rw [mB.eq_def] at h
    dsimp only at h
    split at h
    · simp only [Bool.and_eq_true] at h
      obtain ⟨⟨⟨⟨⟨⟨⟨⟨h1, h2⟩, h3⟩, h4⟩, h5⟩, h6⟩, h7⟩, h8⟩, h9⟩ := h
      have e4 := eq_of_beq h4
      subst e4
      split at h8
      · simp only [Bool.and_eq_true, beq_iff_eq] at h8
        obtain ⟨⟨e1, e2⟩, e3⟩ := h8
        subst e1
        have ln := locL_ok h5
        have ly := locL_ok h6
        refine one (ds_try fr.1 fr.2.1 fr.2.2 (by rw [k.N]; exact k.nd) (by rw [k.N]; exact e2) (by rw [k.N]; exact e3) (by rw [← hs] at ln; exact ln) (by rw [← hs] at ly; exact ly) ⟨glB_ok (by rw [hs]; exact h1), okN_1 h2, .inl (k.own _ _ (by simpa using h3))⟩ tk (nmOk_1 h7) (nmOk_2 h7) k.K.symm (k.exm _ _ (by simpa using h3)) (sole_ok rfl) stores_ok1 (each_one rfl) fun W' pn xe tk' hp' => ?_)
        exact (ihb _ h9 T _ W' (k.tr pn xe) hs hk hf fr tk' hp').1
      · cases h8
    · simp only [Bool.and_eq_true] at h
      obtain ⟨⟨⟨⟨⟨⟨⟨h1, h2⟩, h3⟩, h4⟩, h5⟩, h6⟩, h8⟩, h9⟩ := h
      have e4 := eq_of_beq h4
      subst e4
      split at h8
      · simp only [Bool.and_eq_true, beq_iff_eq] at h8
        obtain ⟨⟨e1, e2⟩, e3⟩ := h8
        subst e1
        subst e2
        have ly := locL_ok h5
        rw [← hs] at ly
        refine one (ds_try0 fr.2.1 fr.2.2 (by rw [k.N]; exact k.nd) (by rw [k.N]; exact e3) ly (.inl ly) ⟨glB_ok (by rw [hs]; exact h1), okN_1 h2, .inl (k.own _ _ (by simpa using h3))⟩ tk (nmOk_1 h6) (nmOk_2 h6) k.K (k.exm _ _ (by simpa using h3)) (sole_ok rfl) stores_ok1 (each_one rfl) fun W' pn xe tk' hp' => ?_)
        exact (ihb _ h9 T _ W' (k.tr pn xe) hs hk hf fr tk' hp').1
      · cases h8
    · cases h
  | trn b ihb =>
    intro ss h T X W k hs hk hf fr tk hp
    rw [mB.eq_def] at h
    dsimp only at h
    split at h
    · exact one (ds_trn fun pn xe tk' hp' => (ihb _ h T _ W0 (k.tr pn xe) hs hk hf fr tk' hp').1)
    · cases h
end
end Vm
end

section
/-! W10: the law's call, with tables of code objects. -/
namespace Vm
open PySem L2 PySem.Spec PyProof.Rows
def NoList (K : PySem.W.Frag) : Prop := ∀ a o, K.lookup a = some o → o.cls ≠ .type "list"
abbrev emT : Obj := { cls := .none, data := .fields #[] }
/-- the script, and the tables of code objects -/
def scrT (a : Addr) (o : Obj) (ns : List Int) (ts : List Addr) : Hp := fun b => if b = a then some (.frz o (.lst (ns.map V.int))) else if b ∈ ts then some (.tbl #[]) else none
section
variable {a : Addr} {o : Obj} {ns : List Int} {ts : List Addr}
theorem scrT_a : scrT a o ns ts a = some (.frz o (.lst (ns.map V.int))) := if_pos rfl
theorem scrT_t {b : Addr} (h : b ∈ ts) (n : a ∉ ts) : scrT a o ns ts b = some (.tbl #[]) := by
  unfold scrT
  have ne : ¬ b = a := fun z => n (by rw [← z]; exact h)
  rw [if_neg ne, if_pos h]
theorem scrT_cases (b : Addr) : (b = a ∧ scrT a o ns ts b = some (.frz o (.lst (ns.map V.int)))) ∨ (b ≠ a ∧ b ∈ ts ∧ scrT a o ns ts b = some (.tbl #[])) ∨ (b ≠ a ∧ b ∉ ts ∧ scrT a o ns ts b = none) := by
  unfold scrT
  by_cases h : b = a
  · exact .inl ⟨h, if_pos h⟩
  · by_cases h2 : b ∈ ts
    · exact .inr (.inl ⟨h, h2, by rw [if_neg h, if_pos h2]⟩)
    · exact .inr (.inr ⟨h, h2, by rw [if_neg h, if_neg h2]⟩)
end
theorem law_callW {P : Program} {w : World} {K : PySem.W.Frag} {mg mb : Str → Option Value} {k : Nat} {fa a : Addr} {cs : List (Addr × Addr)} {fd : FuncData} {x : Str} {sp : Sp} {s1 : Shared} {vs : List Value} {ns : List Int}
    (KX : K.In s1.heap) (nl : NoList K) (hns : s1.heap.Ns mainGlobals mg) (hb : s1.heap.Ns builtinsNs mb) (hbb : ∀ x : Str, x ≠ "__name__" → mb x = bootBuiltins x) (hlim : s1.heap.NoLimit) (hg : s1.gens = #[])
    (hT : ∀ p ∈ cs, s1.heap.get? p.2 = some emT) (nT : ∀ p ∈ cs, K.lookup p.2 = none) (hC : ∀ p ∈ cs, PySem.W.CodeHd s1.heap p.1 p.2)
    (hbm : ∃ (bm : Addr) (ob : Obj), mg "__builtins__" = some (.ref bm) ∧ bm ≠ builtinsNs ∧ s1.heap.get? bm = some ob ∧ ob.cls = .type "module" ∧ ob.dict = some builtinsNs ∧ ob.data = .plain)
    (ha : s1.heap.get? a = some { cls := .type "list", data := .seq vs.toArray }) (hi : IntsAre vs ns) (hl : ns.length ≤ sizeLine) (hr : Room k callerA)
    (F : ∀ base : Heap, K.In base → base.Ns mainGlobals mg → (∀ p ∈ cs, LamX.TabB base mg p.1 p.2) → FnG P w K mg base k fa fd [x] sp) (hbind : ∀ (s : Shared) (u : Value), BindsTo s fd ⟨[u], []⟩ [(x, u)])
    (hsp : ∀ (o : Obj), a ∉ cs.map (·.2) → sp [.ref a] (scrT a o ns (cs.map (·.2))) (fun v _ => v = .bl true) fun _ _ _ => False) :
    codeAny (model P w) callerA (.call (.ref fa) ⟨[.ref a], []⟩) (fun r s' => r = .ok (.ret (.bool true)) ∧ OldK s1.heap s'.heap ∧ s'.os = s1.os ∧ AllBare s'.gens) s1 := by
  have rv := vals_ints hi
  have tabAt : ∀ b, b ∈ cs.map (·.2) → s1.heap.get? b = some emT ∧ K.lookup b = none := fun b m => by
    obtain ⟨p, hp, rfl⟩ := List.mem_map.mp m
    exact ⟨hT p hp, nT p hp⟩
  have aT : a ∉ cs.map (·.2) := fun z => by
    have q := (tabAt a z).1
    rw [ha] at q
    cases q
  have kn : K.lookup a = none := by
    cases q : K.lookup a with
    | none => rfl
    | some o =>
      have e := KX a o q
      rw [ha] at e
      cases e
      exact absurd rfl (nl a _ q)
  let H0 : Hp := scrT a { cls := .type "list", data := .seq vs.toArray } ns (cs.map (·.2))
  have hok : HOk P w H0 s1.heap := fun b u e => by
    rcases scrT_cases (a := a) (o := { cls := .type "list", data := .seq vs.toArray }) (ns := ns) (ts := cs.map (·.2)) b with ⟨rfl, z⟩ | ⟨_, m, z⟩ | ⟨_, _, z⟩
    · have e' := z.symm.trans e
      cases e'
      exact ⟨ha, by rw [List.length_map]; exact hl, vs, _, rv, ha⟩
    · have e' := z.symm.trans e
      cases e'
      exact (tabAt b m).1
    · have e' := z.symm.trans e
      cases e'
  -- what is neither the script nor a table
  have off : ∀ {b : Addr} {o : Obj}, s1.heap.get? b = some o → (∀ vs n, o.data ≠ .seq vs n) → o.data ≠ .fields #[] → (hidT s1.heap H0).get? b = some o := fun {b o} e h1 h2 => by
    refine hidT_get e ?_
    rcases scrT_cases (a := a) (o := { cls := .type "list", data := .seq vs.toArray }) (ns := ns) (ts := cs.map (·.2)) b with ⟨rfl, _⟩ | ⟨_, m, _⟩ | ⟨_, _, z⟩
    · rw [ha] at e
      cases e
      exact absurd rfl (h1 _ _)
    · rw [(tabAt b m).1] at e
      cases e
      exact absurd rfl h2
    · exact z
  have offK : K.In (hidT s1.heap H0) := fun b o e => by
    refine hidT_get (KX b o e) ?_
    rcases scrT_cases (a := a) (o := { cls := .type "list", data := .seq vs.toArray }) (ns := ns) (ts := cs.map (·.2)) b with ⟨rfl, _⟩ | ⟨_, m, _⟩ | ⟨_, _, z⟩
    · rw [kn] at e; cases e
    · rw [(tabAt b m).2] at e; cases e
    · exact z
  have offN : ∀ {b : Addr} {m : Str → Option Value}, s1.heap.Ns b m → (hidT s1.heap H0).Ns b m := fun {b m} ⟨o, es, ep, e, d, r⟩ => ⟨o, es, ep, off e (fun vs n z => by rw [d] at z; cases z) (fun z => by rw [d] at z; cases z), d, r⟩
  have md : Mod K mg (hidT s1.heap H0) := ⟨offK, offN hns, ⟨mb, offN hb, hbb⟩, let ⟨mc, h1, h2⟩ := hlim; ⟨mc, offN h1, h2⟩⟩
  have gNe : ∀ {b : Addr} {o : Obj}, s1.heap.get? b = some o → (∀ es ep, o.data ≠ .dict es ep) → mainGlobals ≠ b := fun {b o} e n z => by
    obtain ⟨o2, es, ep, e2, d, _⟩ := hns
    rw [z, e] at e2
    cases e2
    exact n _ _ d
  have TB : ∀ p ∈ cs, LamX.TabB (hidT s1.heap H0) mg p.1 p.2 := fun p hp => by
    refine ⟨?_, ?_, gNe (hT p hp) fun es ep z => by cases z⟩
    · obtain ⟨o, us, file, tf, flags, tg, inF, text, tt, e1, r1, r2, r3, r⟩ := hC p hp
      refine ⟨o, us, file, tf, flags, tg, inF, text, tt, off e1 (fun vs n z => by rw [r2] at z; cases z) (fun z => ?_), r1, r2, r3, r⟩
      rw [r2] at z
      cases z
      simp at r3
    · obtain ⟨bm, ob, b1, b2, b3, b4, b5, b6⟩ := hbm
      refine ⟨bm, ob, b1, b2, fun z => gNe b3 (fun es ep y => by rw [b6] at y; cases y) z.symm, fun z => ?_, off b3 (fun vs n z => by rw [b6] at z; cases z) (fun z => by rw [b6] at z; cases z), b4, b5, b6⟩
      rw [z, hT p hp] at b3
      cases b3
      cases b6
  have z0 : Env0 P w K mg (hidT s1.heap H0) callerA [] s1 H0 := ⟨rfl, md, fun b o e => of_hidT e, Nat.le_of_eq (hidT_size _ _), trivial, fun b hb => (List.not_mem_nil hb).elim, hok, .of_eq hg⟩
  refine codeAny_mono ((F _ offK (offN hns) TB).run callerA [] s1 H0 ⟨[.ref a], []⟩ [.ref a] [.ref a] _ _ hr rfl z0 (hbind s1 (.ref a)) (.cons rfl .nil) (hsp _ aT)) fun r s2 h => ?_
  match r, h with
  | .error e, h => exact (cx_none h).elim
  | .ok .next, h => exact h.elim
  | .ok .brk, h => exact h.elim
  | .ok .cont, h => exact h.elim
  | .ok (.ret u), ⟨v, H2, os, bare, un, hok2, rv2, q⟩ =>
    have q' : v = .bl true := q
    subst q'
    obtain rfl : u = Value.bool true := rv2
    have grow : ∀ p ∈ cs, ∃ more : Array Value, s2.heap.get? p.2 = some { cls := .none, data := .fields more } := fun p hp => by
      obtain ⟨more, z⟩ := un.tbls p.2 #[] (scrT_t (List.mem_map.mpr ⟨p, hp, rfl⟩) aT)
      exact ⟨_, hok2 p.2 _ z⟩
    have keep : ∀ b o, b ∉ cs.map (·.2) → s1.heap.get? b = some o → s2.heap.get? b = some o := fun b o nb e => by
      rcases scrT_cases (a := a) (o := { cls := .type "list", data := .seq vs.toArray }) (ns := ns) (ts := cs.map (·.2)) b with ⟨rfl, z⟩ | ⟨_, m, _⟩ | ⟨_, _, z⟩
      · have z2 := un.frzs b _ _ z
        obtain ⟨e2, _⟩ := hok2 b _ z2
        rw [ha] at e
        cases e
        exact e2
      · exact absurd m nb
      · exact un.keep b o e z (by intro y; exact (List.not_mem_nil y).elim) (by simp)
    refine ⟨rfl, ⟨fun b o e => ?_, fun b o e => ?_⟩, os, bare⟩
    · by_cases m : b ∈ cs.map (·.2)
      · obtain ⟨p, hp, rfl⟩ := List.mem_map.mp m
        obtain ⟨more, hm⟩ := grow p hp
        rw [hT p hp] at e
        cases e
        exact .inr (.inl ⟨((hC p hp).tab (hT p hp)).isCodeTable, rfl, #[], more, rfl, by rw [Array.empty_append]; exact hm⟩)
      · exact .inl (keep b o m e)
    · by_cases m : b ∈ cs.map (·.2)
      · obtain ⟨p, hp, rfl⟩ := List.mem_map.mp m
        obtain ⟨more, hm⟩ := grow p hp
        exact ⟨_, hm⟩
      · exact ⟨o, keep b o m e⟩
end Vm
end

section
/-! W11: the error classes of the text. -/
namespace Vm
open PySem L2 PySem.Spec PyProof.Rows
/-! ### the text's tables -/
structure FT where
  nm : Str
  st : Stmt
  N : List Str
  ps : List Str
def fscB (t : FT) : Bool :=
  (match (defScope t.st).kind with | .function => true | _ => false) && !(defScope t.st).isCoroutine && !(defScope t.st).isGenerator && decide t.N.Nodup && decide (t.N.take t.ps.length = t.ps) && (t.ps.all fun x => locB (defScope t.st) x) &&
    ((defScope t.st).names.all fun y => match y.2 with | .free => false | _ => true)
theorem fscB_ok {t : FT} (h : fscB t = true) : FnScope t.N t.ps (defScope t.st) := by
  unfold fscB at h
  simp only [Bool.and_eq_true, Bool.not_eq_true', decide_eq_true_eq, List.all_eq_true] at h
  obtain ⟨⟨⟨⟨⟨⟨h1, h2⟩, h3⟩, h4⟩, h5⟩, h6⟩, h7⟩ := h
  refine ⟨?_, h2, h3, h4, h5, fun x hx => ?_, fun y hy e => ?_⟩
  · split at h1
    · assumption
    · cases h1
  · exact locB_ok (h6 x hx)
  · have := h7 y hy
    rw [e] at this
    cases this
/-- an error's class: its __init__ (st), the names of that (N), its base (by its place) and whether that has an __init__ of its own, its fields -/
structure XT where
  nm : Str
  has : Bool
  st : Stmt
  N : List Str
  bn : Str
  bi : Nat
  bo : Bool
  fs : List Str
/-- a class's __init__ -/
def clsInit : Stmt → Stmt
  | .ClassDef _ _ _ b _ _ _ _ _ _ _ => (b.find? fun s => match s with
    | .FunctionDef .. => true
    | _ => false).getD (.Pass ⟨0, 0, 0, 0⟩)
  | s => s
def initB (xs : List XT) (t : XT) : Bool :=
  fscB ⟨t.nm, t.st, t.N, t.N⟩ && (match xs[t.bi]? with
    | some u => u.nm == t.bn && (match defBody t.st with
      | [.Expr (.Call (.Attribute (.Name b _) m p2) [.Name s _, .Constant (.str _) _ _] [] p5) _, .Assign [.Attribute (.Name s2 _) f _] (.Name q _) _] =>
        (m == ("__init__" : Str)) && (b == t.bn) && !t.bo && (p2.endLine == p5.line) && decide (t.N = [s, q]) && (s2 == s) && decide (t.fs = [f]) && nmOk s && nmOk q && nmOk b && glB (defScope t.st) b
      | [.Expr (.Call (.Attribute (.Name b _) m p2) [.Name s _, .Name q _] [] p5) _] =>
        (m == ("__init__" : Str)) && (b == t.bn) && t.bo && (p2.endLine == p5.line) && decide (t.N = [s, q]) && nmOk s && nmOk q && nmOk b && glB (defScope t.st) b && u.has && !u.bo && decide (u.fs = t.fs)
      | [.Expr (.Call (.Attribute (.Name b _) m p2) [.Name s _, .Name q _] [] p5) _, .Assign [.Attribute (.Name s2 _) f _] (.Name r _) _] =>
        (m == ("__init__" : Str)) && (b == t.bn) && t.bo && (p2.endLine == p5.line) && decide (t.N = [s, q, r]) && (s2 == s) && nmOk s && nmOk q && nmOk r && nmOk b && glB (defScope t.st) b && u.has && !u.bo && decide (t.fs = u.fs ++ [f])
      | _ => false)
    | none => false)
/-! ### what the heap says of a class -/
def excCB (K : PySem.W.Frag) (D : Addr) : Bool :=
  He.eqO (PySem.W.findIn K (.ref D) "__getattribute__") (some (some (.builtin "BaseException.__getattribute__"))) && He.eqO (PySem.W.findIn K (.ref D) "__getattr__") (some none) && decide (PySem.W.subIn K (.ref D) (.type "BaseException") = some true) && PySem.W.hasDictIn K D &&
  He.eqO (PySem.W.findIn K (.ref D) "__class__") (some (some (.builtin "object.__class__"))) && He.eqO (PySem.W.specialIn K (.builtin "object.__class__") "__get__") (some (some (.builtin "getset_descriptor.__get__"))) && decide (PySem.W.takesIn K (.builtin "object.__class__") = some true) && decide (PySem.W.mroIn K D (.type "object") = some true)
theorem excCB_ok {K : PySem.W.Frag} {D : Addr} (h : excCB K D = true) : ExcC K D := by
  unfold excCB at h
  simp only [Bool.and_eq_true] at h
  obtain ⟨⟨⟨⟨⟨⟨⟨h1, h2⟩, h3⟩, h4⟩, h5⟩, h6⟩, h7⟩, h8⟩ := h
  exact ⟨He.eqO_ok h1, He.eqO_ok h2, of_decide_eq_true h3, h4, He.eqO_ok h5, He.eqO_ok h6, of_decide_eq_true h7, of_decide_eq_true h8⟩
def oexB (K : PySem.W.Frag) (C : Addr) : Bool :=
  (match K.lookup C with
  | some ⟨.type "type", _, .cls cd, sl⟩ => (match cd.mro, sl.toList with
    | .ref D :: bm, [_, _, _, _, some (.builtin n), _] => (D == C) && (n == "ValueError.__new__") && !cd.hasDel && cd.hasDict && PySem.HandSPX.refsVE bm
    | _, _ => false)
  | _ => false) && He.eqO (PySem.W.findIn K (.ref C) "__setattr__") (some (some (.builtin "object.__setattr__"))) && decide (PySem.W.subIn K (.ref C) (.type "BaseException") = some true) && decide (PySem.W.typeIn K (.ref C) = some (.type "type")) && PySem.W.keepIn K (.ref C)
theorem oexB_ok {K : PySem.W.Frag} {C : Addr} (h : oexB K C = true) : OexC K C := by
  unfold oexB at h
  simp only [Bool.and_eq_true] at h
  obtain ⟨⟨⟨⟨h1, h2⟩, h3⟩, h4⟩, h5⟩ := h
  refine ⟨?_, He.eqO_ok h2, of_decide_eq_true h3, of_decide_eq_true h4, h5⟩
  split at h1
  · rename_i dd cd sl ho
    split at h1
    · rename_i D bm k0 k1 k2 k3 n k5 hm hs
      simp only [Bool.and_eq_true, beq_iff_eq, Bool.not_eq_true'] at h1
      obtain ⟨⟨⟨⟨rfl, rfl⟩, d1⟩, d2⟩, d3⟩ := h1
      obtain ⟨nm, bs, mro, ns, qn, hd, sn, sub, ab, col, del⟩ := cd
      obtain ⟨l⟩ := sl
      dsimp only at hm hs d1 d2
      subst hm hs d1 d2
      exact ⟨nm, qn, ns, bs, bm, sn, sub, ab, col, dd, k0, k1, k2, k3, k5, ho, d3⟩
    · cases h1
  · cases h1
def baseB (K : PySem.W.Frag) (C0 : Addr) (r : Value) : Bool := match PySem.W.typeIn K (.ref C0) with
  | some mc => He.eqO (PySem.W.specialIn K (.ref C0) "__getattribute__") (some (some (.builtin "type.__getattribute__"))) && PySem.W.readsIn K C0 mc && (match PySem.W.findCls K (.ref C0) mc "__init__" with
    | some (.val v) => decide (v = r)
    | _ => false)
  | none => false
theorem baseB_ok {K : PySem.W.Frag} {C0 : Addr} {r : Value} (h : baseB K C0 r = true) : ∃ mc, BaseF K C0 r mc := by
  unfold baseB at h
  split at h
  · rename_i mc hm
    simp only [Bool.and_eq_true] at h
    obtain ⟨⟨h1, h2⟩, h3⟩ := h
    refine ⟨mc, He.eqO_ok h1, hm, h2, ?_⟩
    split at h3
    · rename_i v hv
      rw [hv, of_decide_eq_true h3]
    · cases h3
  · cases h
def subB (sub : List (List Nat)) (i j : Nat) : Bool := (sub.getD i (sub.getD 0 [])).contains j
def isxT (n : Nat) (sub : List (List Nat)) (c : Nat) (t : Ty) : Option Bool := if c < n then (match t with
  | .own j => if j < n then some (subB sub c j) else none
  | .verr => some true
  | _ => some false) else none
def nmAt (xs : List XT) (c : Nat) : Str := match xs[c]? with
  | some t => t.nm
  | none => match xs[0]? with
    | some t => t.nm
    | none => ""
def exN (K : PySem.W.Frag) (xs : List XT) (c : Nat) : Addr := He.ga K (nmAt xs c)
def names7 : List String := ["NoneType", "bool", "int", "str", "list", "tuple", "dict"]
def tysN (n : Nat) : List Ty := [.str, .int, .bool, .list, .tuple, .dict, .verr] ++ (List.range n).map .own
def initOf (t : XT) : Str × Option Str := (t.nm, some "__init__")
def xcB (xs : List XT) (sub : List (List Nat)) (K : PySem.W.Frag) (i : Nat) (t : XT) : Bool :=
  (He.Fa.glo t.nm).ok K && excCB K (exN K xs i) && (t.fs.all fun f => He.eqO (PySem.W.findIn K (.ref (exN K xs i)) f) (some none)) && (names7.all fun n => decide (PySem.W.kitOne K (.type n) (.ref (exN K xs i)) = some false)) &&
  ((tysN xs.length).all fun t => decide (PySem.W.kitOne K (.ref (exN K xs i)) (tyU (exN K xs) t) = isxT xs.length sub i t)) && ((List.range xs.length).all fun j => decide (PySem.W.exmOne K (.ref (exN K xs i)) (.ref (exN K xs j)) = some (subB sub i j))) &&
  (!t.has || (oexB K (exN K xs i) && He.eqO (PySem.W.findIn K (.ref (exN K xs i)) "__init__") (some (some (.ref (He.fAd K (initOf t))))) && decide (PySem.W.typeIn K (.ref (He.fAd K (initOf t))) = some (.type "function")) && (match xs[t.bi]? with
    | some u => (He.Fa.glo u.nm).ok K && baseB K (He.ga K u.nm) (if t.bo then .ref (He.fAd K (initOf u)) else .builtin "ValueError.__init__")
    | none => false)))
def exB (xs : List XT) (sub : List (List Nat)) (K : PySem.W.Frag) : Bool := (List.range xs.length).all fun i => match xs[i]? with
  | some t => xcB xs sub K i t
  | none => false
theorem exB_at {xs : List XT} {sub : List (List Nat)} {K : PySem.W.Frag} (h : exB xs sub K = true) {i : Nat} {t : XT} (e : xs[i]? = some t) : xcB xs sub K i t = true := by
  have hi : i < xs.length := (List.getElem?_eq_some_iff.mp e).1
  have := List.all_eq_true.mp h i (List.mem_range.mpr hi)
  rw [e] at this
  exact this
theorem exN_at {K : PySem.W.Frag} {xs : List XT} {i : Nat} {t : XT} (e : xs[i]? = some t) : exN K xs i = He.ga K t.nm := by
  unfold exN nmAt
  rw [e]
theorem locB_vis {sc : Scope} {x : Str} (h : L2.Loc sc x) : Vis sc x := by
  rcases h with h | h
  · exact .inl h
  · exact .inr (.inl h)
theorem glB_n {sc : Scope} {x : Str} (h : glB sc x = true) : glN sc x := by
  unfold glB at h
  unfold glN
  split at h
  · assumption
  · cases h
/-- an __init__ as a def of the head -/
def dOf (t : XT) : He.DefD := ⟨initOf t, "__init__", t.nm ++ (".__init__" : Str), defArgs t.st, defBody t.st, defScope t.st, [], []⟩
/-- how an __init__ binds -/
def kwX (kx : List (Nat × List Str × List Nat)) (xs : List XT) : Prop := ∀ (i : Nat) (t : XT), xs[i]? = some t → t.has = true → (∀ (kV doc pm : Value) (an : Option Addr) (cdv ct : Value) (us : List Value), us.length = t.N.length →
  bindArgs (PySem.W.fnOf "__init__" (t.nm ++ (".__init__" : Str)) (defArgs t.st) (defBody t.st) (defScope t.st) .none kV doc pm an cdv ct) ⟨us, []⟩ = pure (t.N.zip us)) ∧
  ∀ ks pm', (i, ks, pm') ∈ kx → ∀ (kV doc pm : Value) (an : Option Addr) (cdv ct : Value) (us ws : List Value), us.length = 1 → ws.length = ks.length →
  bindArgs (PySem.W.fnOf "__init__" (t.nm ++ (".__init__" : Str)) (defArgs t.st) (defBody t.st) (defScope t.st) .none kV doc pm an cdv ct) ⟨us, ks.zip ws⟩ = pure (t.N.zip (permL (0 :: pm'.map (· + 1)) (us ++ ws)))
section
variable {P : Program} {w : World} {K : PySem.W.Frag} {mg : Str → Option Value} {h base : Heap} {xs : List XT} {sub : List (List Nat)} {kx : List (Nat × List Str × List Nat)}
theorem init_ok (KX : K.In h) (G : h.Ns mainGlobals mg) (hx : exB xs sub K = true) (hT : xs.all (fun t => !t.has || initB xs t) = true) (hk : kwX kx xs)
    (hF : ∀ (i : Nat) (t : XT), xs[i]? = some t → t.has = true → ∃ fd, FunD K "__init__" (t.nm ++ (".__init__" : Str)) (defArgs t.st) (defBody t.st) (defScope t.st) [] [] (He.fAd K (initOf t)) fd) {i : Nat} {t : XT} (e : xs[i]? = some t) (ht : t.has = true) :
    ∃ fd, Binds K fd t.N [] ∧ (∀ ks pm, (i, ks, pm) ∈ kx → KSig K fd t.N 1 ks (0 :: pm.map (· + 1))) ∧ PySem.W.keepIn K (.ref (He.fAd K (initOf t))) = true ∧ FnOk P w K mg base C8.CX0 2 (He.fAd K (initOf t)) fd t.N (spInit K t.fs) ∧ (t.bo = false → FnOk P w K mg base C8.CX0 1 (He.fAd K (initOf t)) fd t.N (spInit K t.fs)) := by
  have one_field : ∀ u : XT, u ∈ xs → u.has = true → u.bo = false → ∃ g, u.fs = [g] := fun u hu h1 h2 => by
    have m := List.all_eq_true.mp hT u hu
    rw [h1] at m
    have m : initB xs u = true := m
    unfold initB at m
    rw [Bool.and_eq_true] at m
    have m2 := m.2
    split at m2
    · rw [Bool.and_eq_true] at m2
      have m3 := m2.2
      split at m3
      · simp only [Bool.and_eq_true, decide_eq_true_eq] at m3
        exact ⟨_, m3.1.1.1.1.2⟩
      · simp only [Bool.and_eq_true] at m3
        have := m3.1.1.1.1.1.1.1.1.1.2
        rw [h2] at this
        cases this
      · simp only [Bool.and_eq_true] at m3
        have := m3.1.1.1.1.1.1.1.1.1.1.1.2
        rw [h2] at this
        cases this
      · cases m3
    · cases m2
  have step : ∀ (i : Nat) (t : XT), xs[i]? = some t → t.has = true → (∀ u, xs[t.bi]? = some u → u.has = true → t.bo = true → u.bo = false → ∃ fd, Binds K fd u.N [] ∧ PySem.W.keepIn K (.ref (He.fAd K (initOf u))) = true ∧ FnOk P w K mg base C8.CX0 1 (He.fAd K (initOf u)) fd u.N (spInit K u.fs)) →
      ∃ fd, Binds K fd t.N [] ∧ (∀ ks pm, (i, ks, pm) ∈ kx → KSig K fd t.N 1 ks (0 :: pm.map (· + 1))) ∧ PySem.W.keepIn K (.ref (He.fAd K (initOf t))) = true ∧ FnOk P w K mg base C8.CX0 2 (He.fAd K (initOf t)) fd t.N (spInit K t.fs) ∧ (t.bo = false → FnOk P w K mg base C8.CX0 1 (He.fAd K (initOf t)) fd t.N (spInit K t.fs)) := by
    intro i t e ht hB
    obtain ⟨fd, F⟩ := hF i t e ht
    refine ⟨fd, F.bindsN (hk i t e ht).1, fun ks pm' hm s us ws _ l1 l2 => ?_, F.kp, ?_⟩
    · obtain ⟨oc, od, dV, kV, doc, pm, an, cdv, ct, osl, x1, x2, x3, hD, _⟩ := F.ex
      rcases hD with ⟨_, rfl⟩ | ⟨e0, _⟩
      · rw [x1]
        exact BindsTo.of_eq ((hk i t e ht).2 ks pm' hm kV doc pm an cdv ct us ws l1 l2)
      · exact absurd rfl e0
    have x := exB_at hx e
    unfold xcB at x
    simp only [Bool.and_eq_true, Bool.or_eq_true, Bool.not_eq_true'] at x
    have x7 := x.2
    rw [ht] at x7
    have x7 := x7.resolve_left (by decide)
    obtain ⟨⟨⟨o1, o2⟩, o3⟩, o4⟩ := x7
    have m := List.all_eq_true.mp hT t (List.mem_of_getElem? e)
    rw [ht] at m
    have m : initB xs t = true := m
    unfold initB at m
    rw [Bool.and_eq_true] at m
    have S := fscB_ok m.1
    have m2 := m.2
    cases eu : xs[t.bi]? with
    | none => rw [eu] at m2; cases m2
    | some u =>
      rw [eu] at m2 o4
      simp only [Bool.and_eq_true] at m2 o4
      have eb : u.nm = t.bn := eq_of_beq m2.1
      have hm : mg t.bn = some (.ref (He.ga K u.nm)) := by
        rw [← eb]
        exact He.glo_ok KX G o4.1
      obtain ⟨mc, B⟩ := baseB_ok o4.2
      have m3 := m2.2
      split at m3
      · rename_i b _ mm p2 s _ _ _ _ p5 _ s2 _ f _ q _ _ hb
        simp only [Bool.and_eq_true, beq_iff_eq, decide_eq_true_eq, Bool.not_eq_true'] at m3
        obtain ⟨⟨⟨⟨⟨⟨⟨⟨⟨⟨c1, c2⟩, c3⟩, c4⟩, c5⟩, c6⟩, c7⟩, c8⟩, c9⟩, c10⟩, c11⟩ := m3
        subst c1 c2 c6
        rw [c3] at B
        rw [hb] at F
        rw [c5] at S ⊢
        rw [c7]
        have vs := locB_vis (S.par _ (List.mem_cons_self ..))
        have vq := locB_vis (S.par _ (List.mem_cons_of_mem _ (List.mem_cons_self ..)))
        have A1 : ∀ k, FnOk P w K mg base C8.CX0 (k + 1) (He.fAd K (initOf t)) fd [s2, q] (spInit K [f]) := fun k => init_A F (by simpa using c4) S vs vq c8 c9 (glB_n c11) c10 hm B
        exact ⟨A1 1, fun _ => A1 0⟩
      · rename_i b _ mm p2 s _ q _ p5 _ hb
        simp only [Bool.and_eq_true, beq_iff_eq, decide_eq_true_eq, Bool.not_eq_true'] at m3
        obtain ⟨⟨⟨⟨⟨⟨⟨⟨⟨⟨⟨c1, c2⟩, c3⟩, c4⟩, c5⟩, c6⟩, c7⟩, c8⟩, c9⟩, c10⟩, c11⟩, c12⟩ := m3
        subst c1 c2
        rw [c3] at B
        rw [hb] at F
        rw [c5] at S ⊢
        obtain ⟨fdB, b1, b2, b3⟩ := hB u eu c10 c3 c11
        have vs := locB_vis (S.par _ (List.mem_cons_self ..))
        have vq := locB_vis (S.par _ (List.mem_cons_of_mem _ (List.mem_cons_self ..)))
        have l1 := one_field u (List.mem_of_getElem? eu) c10 c11
        obtain ⟨g, hg⟩ := l1
        rw [c12] at hg
        rw [c12, hg] at b3
        rw [hg]
        refine ⟨init_B0 F (by simpa using c4) S vs vq c6 c7 (glB_n c9) c8 hm B b3 b1 b2, fun z => ?_⟩
        rw [c3] at z
        cases z
      · rename_i b _ mm p2 s _ q _ p5 _ s2 _ f _ r _ _ hb
        simp only [Bool.and_eq_true, beq_iff_eq, decide_eq_true_eq, Bool.not_eq_true'] at m3
        obtain ⟨⟨⟨⟨⟨⟨⟨⟨⟨⟨⟨⟨⟨c1, c2⟩, c3⟩, c4⟩, c5⟩, c6⟩, c7⟩, c8⟩, c9⟩, c10⟩, c11⟩, c12⟩, c13⟩, c14⟩ := m3
        subst c1 c2 c6
        rw [c3] at B
        rw [hb] at F
        rw [c5] at S ⊢
        obtain ⟨fdB, b1, b2, b3⟩ := hB u eu c12 c3 c13
        have vs := locB_vis (S.par _ (List.mem_cons_self ..))
        have vq := locB_vis (S.par _ (List.mem_cons_of_mem _ (List.mem_cons_self ..)))
        have vr := locB_vis (S.par _ (List.mem_cons_of_mem _ (List.mem_cons_of_mem _ (List.mem_cons_self ..))))
        obtain ⟨g, hg⟩ := one_field u (List.mem_of_getElem? eu) c12 c13
        rw [hg] at b3 c14
        rw [c14]
        refine ⟨init_B1 F (by simpa using c4) S vs vq vr c7 c8 c9 (glB_n c11) c10 hm B b3 b1 b2, fun z => ?_⟩
        rw [c3] at z
        cases z
      · cases m3
  refine step i t e ht fun u eu hu _ hbo => ?_
  obtain ⟨fd, b1, _, b2, _, b4⟩ := step _ u eu hu fun u2 _ _ z _ => by rw [hbo] at z; cases z
  exact ⟨fd, b1, b2, b4 hbo⟩
end
end Vm
end

section
/-! W12: from the text's tables to the law's walk. -/
namespace Vm
open PySem L2 PySem.Spec PyProof.Rows

/-! ### the part of the heap that is written, without lists and empty tables -/
def noL (o : Obj) : Bool := (match o.cls with
  | .type c => !(c == "list")
  | _ => true) && !He.emptyTab o
def frL (g : Addr → Option Obj) (as : List Addr) : PySem.W.Frag := as.filterMap fun a => match g a with
  | some o => if noL o then some (a, o) else none
  | none => none
theorem frL_at {g : Addr → Option Obj} {a : Addr} {o : Obj} : ∀ as : List Addr, (frL g as).lookup a = some o → g a = some o ∧ noL o = true
  | [], e => nomatch (show (none : Option Obj) = some o from e)
  | b :: r, e => by
    unfold frL at e
    rw [List.filterMap_cons] at e
    cases hb : g b with
    | none =>
      rw [hb] at e
      exact frL_at r e
    | some ob =>
      rw [hb] at e
      simp only at e
      cases hn : noL ob with
      | false =>
        rw [hn] at e
        exact frL_at r e
      | true =>
        rw [hn] at e
        have e2 : (match a == b with | true => some ob | false => (frL g r).lookup a) = some o := e
        cases q : (a == b) with
        | true =>
          rw [q] at e2
          have eo : ob = o := Option.some.inj e2
          rw [beq_iff_eq.mp q, ← eo]
          exact ⟨hb, hn⟩
        | false =>
          rw [q] at e2
          exact frL_at r e2
theorem noL_ok {o : Obj} (h : noL o = true) : o.cls ≠ .type "list" := fun e => by
  unfold noL at h
  rw [e] at h
  exact absurd h (by simp)
theorem noL_tab {o : Obj} (h : noL o = true) : He.emptyTab o = false := by
  unfold noL at h
  rw [Bool.and_eq_true, Bool.not_eq_true'] at h
  exact h.2
/-- what is looked at -/
def rootsW (g : Addr → Option Obj) (n : Nat) : List Addr := sysModules :: cStatics :: He.asD g n
def obsV (fa : List He.Fa) (ex : PySem.W.Frag → Bool) (fn : List He.DefD) (K : PySem.W.Frag) : He.AlD := ((fa.all fun f => f.ok K) && ex K && fn.all fun d => d.ok K, fn.map fun d => He.fnW K d.at_)
def obsW (fa : List He.Fa) (ex : PySem.W.Frag → Bool) (fn : List He.DefD) (tf : List He.Defn) (g : Addr → Option Obj) (K : PySem.W.Frag) : He.AlD := ((obsV fa ex fn K).1 && He.tabsB g tf K, (obsV fa ex fn K).2)
structure SaysW (fa : List He.Fa) (ex : PySem.W.Frag → Bool) (fn : List He.DefD) (tf : List He.Defn) (h : Heap) (K : PySem.W.Frag) : Prop where
  nl : NoList K
  v : obsV fa ex fn K = He.valD fn
  t : ∀ p ∈ tf, PySem.W.codeHdIn K (He.cT K p).1 (He.cT K p).2 = true ∧ K.lookup (He.cT K p).2 = none ∧ h.get? (He.cT K p).2 = some emT
theorem saysW_of {fa : List He.Fa} {ex : PySem.W.Frag → Bool} {fn : List He.DefD} {tf : List He.Defn} {h : Heap} {as : List Addr} (e : obsW fa ex fn tf h.get? (frL h.get? as) = He.valD fn) : SaysW fa ex fn tf h (frL h.get? as) := by
  have e1 : ((obsV fa ex fn (frL h.get? as)).1 && He.tabsB h.get? tf (frL h.get? as)) = true := congrArg (fun z : He.AlD => z.1) e
  have e2 : (obsV fa ex fn (frL h.get? as)).2 = fn.map He.DefD.val := congrArg (fun z : He.AlD => z.2) e
  rw [Bool.and_eq_true] at e1
  refine ⟨fun a o z => noL_ok (frL_at _ z).2, Prod.ext e1.1 e2, fun p hp => ?_⟩
  have q := List.all_eq_true.mp e1.2 p hp
  rw [Bool.and_eq_true] at q
  have q2 := q.2
  cases ho : h.get? (He.cT (frL h.get? as) p).2 with
  | none => rw [ho] at q2; cases q2
  | some o =>
    rw [ho] at q2
    refine ⟨q.1, ?_, by rw [He.emptyTab_eq q2]⟩
    cases z : (frL h.get? as).lookup (He.cT (frL h.get? as) p).2 with
    | none => rfl
    | some u =>
      obtain ⟨z1, z2⟩ := frL_at _ z
      rw [ho] at z1
      cases z1
      have q3 : He.emptyTab o = true := q2
      rw [noL_tab z2] at q3
      cases q3
def hookW (n : Nat) (fa : List He.Fa) (ex : PySem.W.Frag → Bool) (fn : List He.DefD) (tf : List He.Defn) : PySem.W.Hook where
  α := He.AlD
  obs := fun s => obsW fa ex fn tf s.heap.get? (frL s.heap.get? (rootsW s.heap.get? n))
  val := fun _ => He.valD fn
  says := fun _ h => ∃ K : PySem.W.Frag, K.In h ∧ SaysW fa ex fn tf h K
  of := fun _ _ e => ⟨_, fun a o z => (frL_at _ z).1, saysW_of e⟩
  keeps := fun _ _ _ ⟨K, hK, c⟩ k => ⟨K, PySem.W.Frag.In.keeps hK k, c.nl, c.v, fun p hp => ⟨(c.t p hp).1, (c.t p hp).2.1, k _ _ (c.t p hp).2.2⟩⟩
theorem obsW_eq {n : Nat} {fa : List He.Fa} {ex : PySem.W.Frag → Bool} {fn : List He.DefD} {tf : List He.Defn} {g : Addr → Option Obj} {s : Shared} (h : ∀ a, g a = s.heap.get? a) : obsW fa ex fn tf g (frL g (rootsW g n)) = (hookW n fa ex fn tf).obs s := by
  have e : g = s.heap.get? := funext h
  rw [e] <;> rfl
section
variable {fa : List He.Fa} {ex : PySem.W.Frag → Bool} {fn : List He.DefD} {K : PySem.W.Frag}
theorem says_fact (c : obsV fa ex fn K = He.valD fn) {f : He.Fa} (h : f ∈ fa) : f.ok K = true := by
  have c1 := (He.ba (He.ba (show ((fa.all fun f => f.ok K) && ex K && fn.all fun d => d.ok K) = true from congrArg (fun z : He.AlD => z.1) c)).1).1
  exact List.all_eq_true.mp c1 f h
theorem says_ex (c : obsV fa ex fn K = He.valD fn) : ex K = true := (He.ba (He.ba (show ((fa.all fun f => f.ok K) && ex K && fn.all fun d => d.ok K) = true from congrArg (fun z : He.AlD => z.1) c)).1).2
theorem says_def (c : obsV fa ex fn K = He.valD fn) {d : He.DefD} (h : d ∈ fn) : ∃ fd, FunD K d.name d.qual d.params d.body d.scope (d.dvs K) (d.kws K) (He.fAd K d.at_) fd := by
  have c2 := (He.ba (show ((fa.all fun f => f.ok K) && ex K && fn.all fun d => d.ok K) = true from congrArg (fun z : He.AlD => z.1) c)).2
  have e : fn.map (fun d => He.fnW K d.at_) = fn.map He.DefD.val := congrArg (fun z : He.AlD => z.2) c
  obtain ⟨i, hi, q⟩ := List.mem_iff_getElem.mp h
  have e2 : (fn.map fun d => He.fnW K d.at_)[i]? = (fn.map He.DefD.val)[i]? := by rw [e]
  rw [List.getElem?_map, List.getElem?_map, List.getElem?_eq_getElem hi, q] at e2
  exact He.DefD.funD (Option.some.inj e2) (List.all_eq_true.mp c2 d h)
end
theorem walk_ofW {l : PySem.W.OpenLaw} {n k : Nat} {q : Program} {loose : List Str} {XP : (Str → Option Value) → Heap → Prop} {YP : World → Heap → Prop} {d : DefRec} {x : Str}
    (hn : l.most = some n) (hn2 : n ≤ sizeLine) (hdf : d.params.defaults = []) (hr : Room k callerA)
    (F : ∀ (w : World) (mg : Str → Option Value) (fa : Addr) (h : Heap), YP w h → h.Ns mainGlobals mg → mg d.name = some (.ref fa) →
      ∃ (K : PySem.W.Frag) (fd : FuncData) (sp : Sp) (cs : List (Addr × Addr)), K.In h ∧ NoList K ∧ (∀ p ∈ cs, PySem.W.CodeHd h p.1 p.2 ∧ K.lookup p.2 = none ∧ h.get? p.2 = some emT) ∧ (∀ (s : Shared) (u : Value), BindsTo s fd ⟨[u], []⟩ [(x, u)]) ∧
        (∀ (a : Addr) (o : Obj) (ns : List Int), ns.length ≤ n → a ∉ cs.map (·.2) → sp [.ref a] (scrT a o ns (cs.map (·.2))) (fun v _ => v = .bl true) fun _ _ _ => False) ∧
        ∀ base : Heap, K.In base → base.Ns mainGlobals mg → (∀ p ∈ cs, LamX.TabB base mg p.1 p.2) → FnG l.prog w K mg base k fa fd [x] sp) :
    PySem.W.WalkO q loose XP YP l.row.toRowW d [] (fun f vs => PySem.call f vs) := by
  refine Att.attach_call hn hdf fun w s₀ s₁ mg mb fa o pm cd doc a vs ns G Y ho hd hcd hmg hobj hints hlen hg => ?_
  obtain ⟨K, fd, sp, cs, KX, nl, hT, hb, hsp, hF⟩ := F w mg fa _ Y G.T.g hmg
  exact law_callW KX nl G.T.g G.T.b G.T.builtins G.T.nolimit hg (fun p hp => (hT p hp).2.2) (fun p hp => (hT p hp).2.1) (fun p hp => (hT p hp).1) G.T.bmain hobj hints (Nat.le_trans hlen hn2) hr hF hb fun o ha => hsp a o ns hlen ha

/-! ### the text's tables -/
/-- a def that is handed a lambda -/
structure LT where
  nm : Str
  st : Stmt
  N : List Str
  a : Str
def lamBody (t : LT) (d : LFn) (body : List Stmt) : Bool := match body, d.found with
  | [.Assign [.Name fv _] (.Call (.Name a1 _) [] [] _) _], some j => (a1 == t.a) && (t.N[j]? == some fv) && locL (defScope t.st) fv
  | [.Expr (.Call (.Name a1 _) [] [] _) _], none => a1 == t.a
  | _, _ => false
def lamB (M : MC) (t : LT) (d : LFn) : Bool := fscB ⟨t.nm, t.st, t.N, [t.a]⟩ && nmOk t.a && (t.N[0]? == some t.a) && decide (d.ns ≤ t.N.length) && (match d.pre with
    | [(j, .none)] => j == d.err
    | _ => false) && (match defBody t.st with
  | .Assign [.Name y _] (.Constant .none _ _) _ :: .Try body [.ExceptHandler (some (.Name cn _)) (some n) [.Assign [.Name y1 _] (.Name n1 _) _] _] [] [] _ :: post =>
    (y1 == y) && (n1 == n) && (M.ow.lookup cn == some d.cls) && (t.N[d.en]? == some n) && (t.N[d.err]? == some y) && !(d.err == 0) && locL (defScope t.st) n && locL (defScope t.st) y && nmOk n && nmOk cn && glB (defScope t.st) cn && lamBody t d body && mB { M with N := t.N, lf := [] } (defScope t.st) d.post post
  | _ => false)
/-- the tables' facts of the heap -/
def faOf (M : MC) (P : Pg) : List He.Fa := M.fn.map (fun q => .glo q.1) ++ M.no.map .free ++ M.co.map (fun q => match P.con q.2 with
  | some (.int i) => .int q.1 i
  | some (.str z) => .str q.1 z
  | _ => .free "") ++ M.ct.map (fun q => .glo q.1) ++ M.lf.map fun q => .glo q.1
def dvOf : PyData → He.Dv
  | .int i => .int i
  | .str z => .str z
  | .bool b => .bl b
  | _ => .non
def flatC : PyData → Bool
  | .none => true
  | .int _ => true
  | .str _ => true
  | .bool _ => true
  | _ => false
theorem dv_dat {K : PySem.W.Frag} : ∀ {ds : List PyData}, ds.all flatC = true → DatL K (fun _ => none) ((ds.map dvOf).map (He.Dv.v K)) ds
  | [], _ => .nil
  | d :: ds, h => by
    rw [List.all_cons, Bool.and_eq_true] at h
    refine .cons ?_ (dv_dat h.2)
    cases d <;> first | exact .non | exact .int _ | exact .str _ | exact .bl _ | exact absurd h.1 (by simp [flatC])
def tuB (M : MC) (P : Pg) (K : PySem.W.Frag) : Bool := M.ct.all fun q => match P.con q.2 with
  | some (.tuple ds) => ds.all flatC && He.tupB K q.1 (ds.map dvOf)
  | _ => false
def smB (K : PySem.W.Frag) : Bool := match K.lookup sysModules with
  | some o => (match o.data with
    | .seq _ _ => false
    | _ => true)
  | none => false
def tbA (K : PySem.W.Frag) (nm : Str) : Addr := (He.cT K (nm, none)).2
/-- all that is asked of the heap beside the facts -/
def exAll (M : MC) (P : Pg) (xs : List XT) (sub : List (List Nat)) (mks : List Str) (K : PySem.W.Frag) : Bool := tuB M P K && exB xs sub K && smB K && (mks.all fun a => mks.all fun b => !(tbA K a == tbA K b) || a == b)
def fnOfT (tab : List FT) : List He.DefD := tab.map fun t => ⟨(t.nm, none), t.nm, t.nm, defArgs t.st, defBody t.st, defScope t.st, [], []⟩
def fnOfL (tab : List LT) : List He.DefD := tab.map fun t => ⟨(t.nm, none), t.nm, t.nm, defArgs t.st, defBody t.st, defScope t.st, [], []⟩
def fnOfX (xs : List XT) : List He.DefD := (xs.filter (·.has)).map dOf
def fnAll (tab : List FT) (lt : List LT) (xs : List XT) : List He.DefD := fnOfT tab ++ fnOfL lt ++ fnOfX xs
/-- how the i-th def is called -/
def kwFor (M : MC) (tab : List FT) : Prop := ∀ i t, tab[i]? = some t →
  (∀ (kV doc pm : Value) (an : Option Addr) (cdv ct : Value) (us : List Value), us.length = t.ps.length → bindArgs (PySem.W.fnOf t.nm t.nm (defArgs t.st) (defBody t.st) (defScope t.st) .none kV doc pm an cdv ct) ⟨us, []⟩ = pure (t.ps.zip us)) ∧
  ∀ m ks pm', (i, m, ks, pm') ∈ M.kw → ∀ (kV doc pm : Value) (an : Option Addr) (cdv ct : Value) (us ws : List Value), us.length = m → ws.length = ks.length →
    bindArgs (PySem.W.fnOf t.nm t.nm (defArgs t.st) (defBody t.st) (defScope t.st) .none kV doc pm an cdv ct) ⟨us, ks.zip ws⟩ = pure (t.ps.zip (permL pm' (us ++ ws)))
def kwL (lt : List LT) : Prop := ∀ (i : Nat) (t : LT), lt[i]? = some t → ∀ (kV doc pm : Value) (an : Option Addr) (cdv ct : Value) (us : List Value), us.length = [t.a].length →
  bindArgs (PySem.W.fnOf t.nm t.nm (defArgs t.st) (defBody t.st) (defScope t.st) .none kV doc pm an cdv ct) ⟨us, []⟩ = pure ([t.a].zip us)
/-- the look at all of the text -/
def mAt (M : MC) (mks : List Str) (t : FT) : MC := { M with N := t.N, lf := if mks.contains t.nm then M.lf else [] }
def tabB (P : Pg) (M : MC) (tab : List FT) (fns : List Fn) (lt : List LT) (lfs : List LFn) (xs : List XT) (mks : List Str) : Bool :=
  (M.fn.all fun q => match tab[q.2]? with
    | some t => t.nm == q.1
    | none => false) && decide (tab.length = fns.length) &&
  ((tab.zip fns).all fun q => fscB q.1 && decide (q.1.ps.length = q.2.np) && decide (q.1.N.length = q.2.ns) && decide (q.2.np ≤ q.2.ns) && mB (mAt M mks q.1) (defScope q.1.st) q.2.body (defBody q.1.st)) &&
  (M.co.all fun q => match P.con q.2 with
    | some (.int _) => true
    | some (.str _) => true
    | _ => false) &&
  (M.lf.all fun q => match lt[q.2]? with
    | some t => t.nm == q.1
    | none => false) && decide (lt.length = lfs.length) && ((lt.zip lfs).all fun q => lamB M q.1 q.2) &&
  (xs.all fun t => !t.has || initB xs t) && (M.ow.all fun q => match xs[q.2]? with
    | some t => t.nm == q.1
    | none => false) && (M.mx.all fun q => match xs[q.2]? with
    | some t => (t.nm == q.1) && t.has && decide (t.fs.length ≤ 800)
    | none => false)
theorem mem_of_lk {α : Type} {l : List (Str × α)} {x : Str} {i : α} (h : l.lookup x = some i) : (x, i) ∈ l := PySem.mem_of_lookup h
end Vm
end

section
/-! W13: what is known in each def of the text. -/
namespace Vm
open PySem L2 PySem.Spec PyProof.Rows
/-- the interpreter's tables are those of the text -/
structure PgOk (P : Pg) (fns : List Fn) (lfs : List LFn) (xs : List XT) (sub : List (List Nat)) : Prop where
  fn : ∀ i, P.fns i = fns[i]?
  lf : ∀ i, P.lfn i = lfs[i]?
  isx : ∀ c t, P.isx c t = isxT xs.length sub c t
  iso : ∀ c t, P.iso c t = none
  sb : ∀ a b, P.sub a b = subB sub a b
  len : sub.length = xs.length
  fl : ∀ c, P.fields c = ((xs[c]?).map (·.fs)).getD []
section
variable {Pr : Program} {w : World} {K : PySem.W.Frag} {mg : Str → Option Value} {h base : Heap} {P : Pg} {M : MC} {tab : List FT} {fns : List Fn} {lt : List LT} {lfs : List LFn} {xs : List XT} {sub : List (List Nat)} {mks : List Str}
theorem isx_lt {n c : Nat} {t : Ty} {b : Bool} (e : isxT n sub c t = some b) : c < n ∧ t ∈ tysN n := by
  unfold isxT at e
  split at e
  · rename_i hc
    refine ⟨hc, ?_⟩
    cases t with
    | own j =>
      simp only at e
      split at e
      · rename_i hj
        exact List.mem_append.mpr (.inr (List.mem_map.mpr ⟨j, List.mem_range.mpr hj, rfl⟩))
      · cases e
    | _ => simp [tysN]
  · cases e
/-- the tables T of a heap's part K -/
def tbOf (K : PySem.W.Frag) (xs : List XT) (mks : List Str) : Tb := ⟨K, exN K xs, fun _ => 0, fun _ => none, mks.map fun nm => (tbA K nm, (nm ++ (".<locals>." : Str)) ++ ("<lambda>" : Str))⟩
theorem own_ok (hP : PgOk P fns lfs xs sub) (hx : exB xs sub K = true) {X : Cx} {n : Nat} (hK : X.K = K) (G : Hp) : OwnK X ((tbOf K xs mks).wG G) (kitOf P n) (exN K xs) := by
  have at_ : ∀ {c : Nat}, c < xs.length → ∃ t, xs[c]? = some t ∧ xcB xs sub K c t = true := fun {c} hc => ⟨xs[c], by simp [hc], exB_at hx (by simp [hc])⟩
  refine ⟨fun c t b e => ?_, fun c d e => ?_, fun c n e => ?_, fun c t b e => ?_⟩
  · have e : P.isx c t = some b := e
    rw [hP.isx] at e
    obtain ⟨h1, h2⟩ := isx_lt e
    obtain ⟨u, hu, hb⟩ := at_ h1
    unfold xcB at hb
    simp only [Bool.and_eq_true] at hb
    refine ⟨by rw [hK]; exact excCB_ok hb.1.1.1.1.1.2, ?_⟩
    have := of_decide_eq_true (List.all_eq_true.mp hb.1.1.2 t h2)
    rw [e] at this
    rw [hK]
    exact this
  · have e : (P.isx c .verr).isSome = true := e
    rw [hP.isx] at e
    obtain ⟨b, e⟩ := Option.isSome_iff_exists.mp e
    obtain ⟨h1, _⟩ := isx_lt e
    obtain ⟨u, hu, hb⟩ := at_ h1
    unfold xcB at hb
    simp only [Bool.and_eq_true] at hb
    have := of_decide_eq_true (List.all_eq_true.mp hb.1.1.1.2 (tyN d) (tyN_mem d))
    rw [hK]
    exact this
  · have e : (P.fields c).contains n = true := e
    rw [hP.fl] at e
    cases q : xs[c]? with
    | none => rw [q] at e; cases e
    | some u =>
      rw [q] at e
      have hb := exB_at hx q
      unfold xcB at hb
      simp only [Bool.and_eq_true] at hb
      refine ⟨by rw [hK]; exact excCB_ok hb.1.1.1.1.1.2, ?_⟩
      rw [hK]
      exact He.eqO_ok (List.all_eq_true.mp hb.1.1.1.1.2 n (by simpa using e))
  · have e : P.iso c t = some b := e
    rw [hP.iso] at e
    cases e
theorem exm_at (hP : PgOk P fns lfs xs sub) (hx : exB xs sub K = true) {c : Nat} (hc : c < xs.length) (c' : Nat) : PySem.W.exmOne K (.ref (exN K xs c')) (.ref (exN K xs c)) = some (P.sub c' c) := by
  have low : ∀ {c' : Nat}, c' < xs.length → PySem.W.exmOne K (.ref (exN K xs c')) (.ref (exN K xs c)) = some (P.sub c' c) := fun {c'} h => by
    have hb := exB_at hx (show xs[c']? = some xs[c'] from by simp [h])
    unfold xcB at hb
    simp only [Bool.and_eq_true] at hb
    rw [hP.sb]
    exact of_decide_eq_true (List.all_eq_true.mp hb.1.2 c (List.mem_range.mpr hc))
  rcases Nat.lt_or_ge c' xs.length with h | h
  · exact low h
  · have z : exN K xs c' = exN K xs 0 := by
      unfold exN nmAt
      rw [List.getElem?_eq_none h]
      cases xs[0]? <;> rfl
    have z2 : P.sub c' c = P.sub 0 c := by
      rw [hP.sb, hP.sb]
      unfold subB
      have e : ∀ d, sub.getD c' d = d := fun d => by
        rw [List.getD_eq_getElem?_getD, List.getElem?_eq_none (by rw [hP.len]; exact h)]
        rfl
      rw [e]
      cases q : sub with
      | nil => rfl
      | cons a r => rfl
    rw [z, z2]
    exact low (by omega)
/-- all that is known of the text and the heap -/
structure TxtOk (P : Pg) (M : MC) (tab : List FT) (fns : List Fn) (lt : List LT) (lfs : List LFn) (xs : List XT) (sub : List (List Nat)) (mks : List Str) (K : PySem.W.Frag) (h : Heap) (mg : Str → Option Value) : Prop where
  pg : PgOk P fns lfs xs sub
  look : tabB P M tab fns lt lfs xs mks = true
  kw : kwFor M tab
  kl : kwL lt
  kx : kwX M.kx xs
  KX : K.In h
  ns : h.Ns mainGlobals mg
  c : obsV (faOf M P) (exAll M P xs sub mks) (fnAll tab lt xs) K = He.valD (fnAll tab lt xs)
/-- what is known of a context of the text -/
structure CtxOk (Pr : Program) (w : World) (K : PySem.W.Frag) (mg : Str → Option Value) (base : Heap) (N : List Str) (n : Nat) (X : Cx) : Prop where
  prog : X.prog = Pr
  w : X.w = w
  K : X.K = K
  mg : X.mg = mg
  base : X.base = base
  nN : X.N = N
  nd : N.Nodup
  calm : X.calm = true
  gd : X.A.guards = some []
  room : Room (3 * n + 3) X.A
theorem look_all (T : TxtOk P M tab fns lt lfs xs sub mks K h mg) : (∀ q ∈ M.fn, ∃ t, tab[q.2]? = some t ∧ t.nm = q.1) ∧ tab.length = fns.length ∧
    (∀ (t : FT) (d : Fn) (i : Nat), tab[i]? = some t → fns[i]? = some d → fscB t = true ∧ t.ps.length = d.np ∧ t.N.length = d.ns ∧ d.np ≤ d.ns ∧ mB (mAt M mks t) (defScope t.st) d.body (defBody t.st) = true) ∧
    (∀ q ∈ M.co, (∃ i, P.con q.2 = some (.int i)) ∨ ∃ i, P.con q.2 = some (.str i)) ∧ (∀ q ∈ M.lf, ∃ t, lt[q.2]? = some t ∧ t.nm = q.1) ∧ lt.length = lfs.length ∧ (∀ (t : LT) (d : LFn) (i : Nat), lt[i]? = some t → lfs[i]? = some d → lamB M t d = true) ∧
    xs.all (fun t => !t.has || initB xs t) = true ∧ (∀ q ∈ M.ow, ∃ t, xs[q.2]? = some t ∧ t.nm = q.1) ∧ ∀ q ∈ M.mx, ∃ t, xs[q.2]? = some t ∧ t.nm = q.1 ∧ t.has = true ∧ t.fs.length ≤ 800 := by
  have l := T.look
  unfold tabB at l
  simp only [Bool.and_eq_true, decide_eq_true_eq] at l
  obtain ⟨⟨⟨⟨⟨⟨⟨⟨⟨l1, l2⟩, l3⟩, l4⟩, l5⟩, l6⟩, l7⟩, l8⟩, l9⟩, l10⟩ := l
  refine ⟨fun q hq => ?_, l2, fun t d i e1 e2 => ?_, fun q hq => ?_, fun q hq => ?_, l6, fun t d i e1 e2 => ?_, l8, fun q hq => ?_, fun q hq => ?_⟩
  · have := List.all_eq_true.mp l1 q hq
    split at this
    · exact ⟨_, by assumption, eq_of_beq this⟩
    · cases this
  · have := List.all_eq_true.mp l3 (t, d) (List.mem_of_getElem? (i := i) (by rw [List.getElem?_zip_eq_some]; exact ⟨e1, e2⟩))
    simp only [Bool.and_eq_true, decide_eq_true_eq] at this
    exact ⟨this.1.1.1.1, this.1.1.1.2, this.1.1.2, this.1.2, this.2⟩
  · have := List.all_eq_true.mp l4 q hq
    split at this
    · exact .inl ⟨_, by assumption⟩
    · exact .inr ⟨_, by assumption⟩
    · cases this
  · have := List.all_eq_true.mp l5 q hq
    split at this
    · exact ⟨_, by assumption, eq_of_beq this⟩
    · cases this
  · exact List.all_eq_true.mp l7 (t, d) (List.mem_of_getElem? (i := i) (by rw [List.getElem?_zip_eq_some]; exact ⟨e1, e2⟩))
  · have := List.all_eq_true.mp l9 q hq
    split at this
    · exact ⟨_, by assumption, eq_of_beq this⟩
    · cases this
  · have := List.all_eq_true.mp l10 q hq
    split at this
    · simp only [Bool.and_eq_true, decide_eq_true_eq] at this
      exact ⟨_, by assumption, eq_of_beq this.1.1, this.1.2, this.2⟩
    · cases this
theorem ex_all (T : TxtOk P M tab fns lt lfs xs sub mks K h mg) : tuB M P K = true ∧ exB xs sub K = true ∧ (∃ o, K.lookup sysModules = some o ∧ ∀ its n, o.data ≠ .seq its n) ∧ ∀ a ∈ mks, ∀ b ∈ mks, tbA K a = tbA K b → a = b := by
  have e := says_ex T.c
  unfold exAll at e
  simp only [Bool.and_eq_true] at e
  obtain ⟨⟨⟨e1, e2⟩, e3⟩, e4⟩ := e
  refine ⟨e1, e2, ?_, fun a ha b hb z => ?_⟩
  · unfold smB at e3
    split at e3
    · rename_i o ho
      refine ⟨o, ho, fun its n z => ?_⟩
      rw [z] at e3
      cases e3
    · cases e3
  · have := List.all_eq_true.mp (List.all_eq_true.mp e4 a ha) b hb
    rw [z] at this
    simpa using this
theorem fact {T : TxtOk P M tab fns lt lfs xs sub mks K h mg} {f : He.Fa} (hf : f ∈ faOf M P) : f.ok K = true := says_fact T.c hf
theorem defT (T : TxtOk P M tab fns lt lfs xs sub mks K h mg) {i : Nat} {t : FT} (e : tab[i]? = some t) : ∃ fd, FunD K t.nm t.nm (defArgs t.st) (defBody t.st) (defScope t.st) [] [] (He.fAd K (t.nm, none)) fd :=
  says_def T.c (d := ⟨(t.nm, none), t.nm, t.nm, defArgs t.st, defBody t.st, defScope t.st, [], []⟩) (List.mem_append.mpr (.inl (List.mem_append.mpr (.inl (List.mem_map.mpr ⟨t, List.mem_of_getElem? e, rfl⟩)))))
theorem defL (T : TxtOk P M tab fns lt lfs xs sub mks K h mg) {i : Nat} {t : LT} (e : lt[i]? = some t) : ∃ fd, FunD K t.nm t.nm (defArgs t.st) (defBody t.st) (defScope t.st) [] [] (He.fAd K (t.nm, none)) fd :=
  says_def T.c (d := ⟨(t.nm, none), t.nm, t.nm, defArgs t.st, defBody t.st, defScope t.st, [], []⟩) (List.mem_append.mpr (.inl (List.mem_append.mpr (.inr (List.mem_map.mpr ⟨t, List.mem_of_getElem? e, rfl⟩)))))
theorem defX (T : TxtOk P M tab fns lt lfs xs sub mks K h mg) {i : Nat} {t : XT} (e : xs[i]? = some t) (ht : t.has = true) : ∃ fd, FunD K "__init__" (t.nm ++ (".__init__" : Str)) (defArgs t.st) (defBody t.st) (defScope t.st) [] [] (He.fAd K (initOf t)) fd :=
  says_def T.c (d := dOf t) (List.mem_append.mpr (.inr (List.mem_map.mpr ⟨t, List.mem_filter.mpr ⟨List.mem_of_getElem? e, ht⟩, rfl⟩)))
/-- how the defs are called -/
def Infos (K : PySem.W.Frag) (tab : List FT) (P : Pg) (info : Nat → FnI) : Prop := ∀ j d, P.fns j = some d → ∃ t, tab[j]? = some t ∧ (info j).x = t.nm ∧ (info j).qual = t.nm ∧ (info j).st = t.st ∧ (info j).f = He.fAd K (t.nm, none) ∧ (info j).N = t.N ∧ (info j).ps = t.ps ∧
  FunD K t.nm t.nm (defArgs t.st) (defBody t.st) (defScope t.st) [] [] (He.fAd K (t.nm, none)) (info j).fd
theorem kn_of {n : Nat} {N : List Str} {X : Cx} {info : Nat → FnI} (T : TxtOk P M tab fns lt lfs xs sub mks K h mg) (b : CtxOk Pr w K mg base N n X) (hI : Infos K tab P info) (all : AllF Pr w K mg base (tbOf K xs mks) P info n) (G : Hp) : Kn ((tbOf K xs mks).wG G) P n { M with N := N, lf := [] } X := by
  obtain ⟨l1, l2, l3, l4, l5, l6, l7, l8, l9, l10⟩ := look_all T
  obtain ⟨e1, e2, e3, e4⟩ := ex_all T
  have kn : Kn (tbOf K xs mks) P n { M with N := N, lf := [] } X := by
    refine ⟨b.nN, b.nd, b.calm, b.K, b.gd, ?_, by rw [b.K]; exact e3, fun x j hx' => ?_, fun x g hg => ?_, fun x g hg => ?_, fun x hx' => ?_, own_ok (G := fun _ => none) T.pg e2 b.K, fun x c hx' => ?_, b.room, fun x c hx' c' => ?_, fun x c hx' => ?_, fun x i hx' => nomatch hx'⟩
    · have := b.room.un
      omega
    · have m := mem_of_lk hx'
      obtain ⟨t, q, en⟩ := l1 _ m
      have en : t.nm = x := en
      have hl : j < fns.length := by
        rw [← l2]
        exact (List.getElem?_eq_some_iff.mp q).1
      have e' : P.fns j = some fns[j] := by rw [T.pg.fn]; simp [hl]
      have z := all j _ e'
      obtain ⟨t2, q1, _, _, _, i4, _, i6, F⟩ := hI j _ e'
      rw [q] at q1
      cases q1
      rw [i4, i6] at z
      refine ⟨He.fAd K (t.nm, none), (info j).fd, t.ps, by rw [b.prog, b.w, b.K, b.mg, b.base]; exact z, ?_, by rw [b.K]; exact F.kp, ?_, fun m' ks pm' hm => ?_⟩
      · rw [b.mg, ← en]
        exact He.glo_ok T.KX T.ns (says_fact T.c (List.mem_append.mpr (.inl (List.mem_append.mpr (.inl (List.mem_append.mpr (.inl (List.mem_append.mpr (.inl (List.mem_map.mpr ⟨_, m, by rw [en]⟩)))))))))) 
      · rw [b.K]
        exact F.bindsN (T.kw j t q).1
      · rw [b.K]
        intro s us ws _ l1 l2
        obtain ⟨oc, od, dV, kV, doc, pm, an, cdv, ct, osl, x1, x2, x3, hD, _⟩ := F.ex
        rcases hD with ⟨_, rfl⟩ | ⟨e0, _⟩
        · rw [x1]
          exact BindsTo.of_eq ((T.kw j t q).2 m' ks pm' hm kV doc pm an cdv ct us ws l1 l2)
        · exact absurd rfl e0
    · have m := mem_of_lk hg
      have fm : (match P.con g with | some (.int i) => He.Fa.int x i | some (.str z) => .str x z | _ => .free "") ∈ faOf M P :=
        List.mem_append.mpr (.inl (List.mem_append.mpr (.inl (List.mem_append.mpr (.inr (List.mem_map.mpr ⟨_, m, rfl⟩))))))
      rcases l4 _ m with ⟨v, hv⟩ | ⟨v, hv⟩
      · have hv : P.con g = some (.int v) := hv
        rw [hv] at fm
        obtain ⟨tk, z⟩ := He.int_ok T.KX T.ns (says_fact T.c fm)
        exact ⟨_, .int v, _, by rw [b.mg]; exact z, ⟨tk, rfl⟩, .int _, hv⟩
      · have hv : P.con g = some (.str v) := hv
        rw [hv] at fm
        obtain ⟨tk, z⟩ := He.str_ok T.KX T.ns (says_fact T.c fm)
        exact ⟨_, .str v, _, by rw [b.mg]; exact z, ⟨tk, rfl⟩, .str _, hv⟩
    · have m := mem_of_lk hg
      have ge := He.glo_ok T.KX T.ns (says_fact T.c (f := .glo x) (List.mem_append.mpr (.inl (List.mem_append.mpr (.inr (List.mem_map.mpr ⟨_, m, rfl⟩))))))
      have tu := List.all_eq_true.mp e1 _ m
      simp only at tu
      split at tu
      · rename_i ds hd
        rw [Bool.and_eq_true] at tu
        exact ⟨_, _, ds, by rw [b.mg]; exact ge, fun H => by rw [b.K]; exact He.tupB_ok tu.2 H, dv_dat tu.1, hd⟩
      · cases tu
    · rw [b.mg]
      exact He.free_ok T.KX T.ns (says_fact T.c (List.mem_append.mpr (.inl (List.mem_append.mpr (.inl (List.mem_append.mpr (.inl (List.mem_append.mpr (.inr (List.mem_map.mpr ⟨x, by simpa using hx', rfl⟩))))))))))
    · obtain ⟨t, q, en⟩ := l9 _ (mem_of_lk hx')
      have hb := exB_at e2 q
      unfold xcB at hb
      simp only [Bool.and_eq_true] at hb
      have z := He.glo_ok T.KX T.ns hb.1.1.1.1.1.1
      have en : t.nm = x := en
      rw [en] at z
      show X.mg x = some (.ref (exN K xs c))
      rw [b.mg, exN_at q, en]
      exact z
    · obtain ⟨t, q, en⟩ := l9 _ (mem_of_lk hx')
      show PySem.W.exmOne X.K (.ref (exN K xs c')) (.ref (exN K xs c)) = _
      rw [b.K]
      exact exm_at T.pg e2 (List.getElem?_eq_some_iff.mp q).1 c'
    · obtain ⟨t, q, en, th, tl⟩ := l10 _ (mem_of_lk hx')
      have hb := exB_at e2 q
      unfold xcB at hb
      simp only [Bool.and_eq_true] at hb
      have z := He.glo_ok T.KX T.ns hb.1.1.1.1.1.1
      have en : t.nm = x := en
      rw [en] at z
      have ef : P.fields c = t.fs := by
        rw [T.pg.fl, show xs[c]? = some t from q]
        rfl
      have x7 := hb.2
      rw [th] at x7
      simp only [Bool.not_true, Bool.false_or, Bool.and_eq_true] at x7
      obtain ⟨fd, b1, b1k, b2, b3, _⟩ := init_ok (P := Pr) (w := w) (base := base) T.KX T.ns e2 l8 T.kx (fun i t e ht => defX T e ht) q th
      refine ⟨?_, He.fAd K (initOf t), fd, t.N, ?_, ?_, ?_, ?_, by rw [ef]; exact tl, fun f hf => ?_, by rw [b.K]; exact b1, by rw [b.K]; exact b1k⟩
      · show X.mg x = some (.ref (exN K xs c))
        rw [b.mg, exN_at q, en]
        exact z
      · rw [b.K]; exact oexB_ok x7.1.1.1
      · rw [b.K]; exact He.eqO_ok x7.1.1.2
      · rw [b.K]; exact of_decide_eq_true x7.1.2
      · rw [b.prog, b.w, b.K, b.mg, b.base, ef]; exact b3
      · rw [ef] at hf
        rw [b.K]
        exact He.eqO_ok (List.all_eq_true.mp hb.1.1.1.1.2 f hf)
  exact kn.wG G
end
end Vm
end

section
/-! W14: the law's walk. -/
namespace Vm
open PySem L2 PySem.Spec PyProof.Rows
section
variable {Pr : Program} {w : World} {K : PySem.W.Frag} {mg : Str → Option Value} {h base : Heap} {P : Pg} {M : MC} {tab : List FT} {fns : List Fn} {lt : List LT} {lfs : List LFn} {xs : List XT} {sub : List (List Nat)} {mks : List Str}
theorem lam_body {X : Cx} {u : LT} {d : LFn} {body : List Stmt} {x : Str} {g : Addr} {cdg : Value} {q : Str} (hB : lamBody u d body = true) (nd : u.N.Nodup) (f c' : Addr) (s : Shared) (H : Hp) (tl : XK → Hp → VK → Prop)
    (act : ∀ (W : L2.WX) (pn : List (Addr × Obj)) (xe : Value → Shared → Prop) (p1 p2 : Pos), L2.Takes ((cxOf C8.CX0 X.prog X.w X.K X.mg X.base u.N x (defScope u.st) g cdg X.A X.stack s H C8.E0).tr pn xe) W →
        PE ((cxOf C8.CX0 X.prog X.w X.K X.mg X.base u.N x (defScope u.st) g cdg X.A X.stack s H C8.E0).tr pn xe) (.Call (.Name u.a p1) [] [] p2) (fun τ G Q => τ[0]? = some (some (.ref f)) ∧ G c' = some (LamX.CodeO c' q) ∧ tl (WE W τ) G Q))
    (W : L2.WX) (pn : List (Addr × Obj)) (xe : Value → Shared → Prop) (tk : L2.Takes ((cxOf C8.CX0 X.prog X.w X.K X.mg X.base u.N x (defScope u.st) g cdg X.A X.stack s H C8.E0).tr pn xe) W) :
    PSs ((cxOf C8.CX0 X.prog X.w X.K X.mg X.base u.N x (defScope u.st) g cdg X.A X.stack s H C8.E0).tr pn xe) body (fun D τ G => τ[0]? = some (some (.ref f)) ∧ G c' = some (LamX.CodeO c' q) ∧ tl (WE W τ) G fun v G' => D.nx (match d.found with
      | some j => τ.set j (some v)
      | none => τ) G') := by
  unfold lamBody at hB
  split at hB
  · rename_i fv p0 a1 p1 p2 p3 j hj
    simp only [Bool.and_eq_true, beq_iff_eq] at hB
    obtain ⟨⟨rfl, h2⟩, h3⟩ := hB
    rw [hj]
    have l := locL_ok h3
    exact pss_one (ps_asg (act W pn xe _ _ tk) (pg_name nd h2 (.inl l) (.inr l)) (sole_ok rfl) stores_ok1 (each_one rfl))
  · rename_i a1 p1 p2 p3 hj
    have e := eq_of_beq hB
    subst e
    rw [hj]
    exact pss_one (ps_expr (act W pn xe _ _ tk) (swaps_ok rfl))
  · cases hB
theorem kn_def {n j : Nat} {X : Cx} {info : Nat → FnI} {t : FT} {fd : FuncData} (T : TxtOk P M tab fns lt lfs xs sub mks K h mg) (KB : K.In base) (b : CtxOk Pr w K mg base t.N n X) (hI : Infos K tab P info) (all : ∀ m, m ≤ n → AllF Pr w K mg base (tbOf K xs mks) P info m)
    (F : FunD K t.nm t.nm (defArgs t.st) (defBody t.st) (defScope t.st) [] [] (He.fAd K (t.nm, none)) fd) (hcode : X.env.code = fd.code) (hqual : ∃ (L f : Addr) (cd : Value), X.env = envOfC t.nm (defScope t.st) L f cd) (rm : Room (3 * n + 5) X.A)
    (TB : ∀ nm ∈ mks, LamX.TabB base mg (He.cT K (nm, none)).1 (He.cT K (nm, none)).2) (G : Hp) : Kn ((tbOf K xs mks).wG G) P n (mAt M mks t) X := by
  have kn := kn_of T b hI (all n (Nat.le_refl _)) G
  obtain ⟨l1, l2, l3, l4, l5, l6, l7, l8, l9, l10⟩ := look_all T
  obtain ⟨e1, e2, e3, e4⟩ := ex_all T
  obtain ⟨L0, f0, cd0, hq⟩ := hqual
  have eq : X.env.qual ++ ("<lambda>" : Str) = (t.nm ++ (".<locals>." : Str)) ++ ("<lambda>" : Str) := by rw [hq]; rfl
  refine ⟨kn.N, kn.nd, kn.calm, kn.K, kn.gd, kn.hu, kn.sm, kn.fn, kn.co, kn.ct, kn.no, ⟨kn.ow.x, kn.ow.p, kn.ow.f, kn.ow.o⟩, kn.own, kn.room, kn.exm, kn.mx, fun x i hx => ?_⟩
  have hx : (if mks.contains t.nm then M.lf else []).lookup x = some i := hx
  by_cases hm : mks.contains t.nm = true
  · rw [if_pos hm] at hx
    have hm : t.nm ∈ mks := by simpa using hm
    have mem := mem_of_lk hx
    obtain ⟨u, hu, en⟩ := l5 _ mem
    have hu : lt[i]? = some u := hu
    have en : u.nm = x := en
    have hil : i < lfs.length := by rw [← l6]; exact (List.getElem?_eq_some_iff.mp hu).1
    have hd : lfs[i]? = some lfs[i] := by simp [hil]
    have lb := l7 u _ i hu hd
    generalize lfs[i] = d at hd lb
    obtain ⟨fdu, Fu⟩ := defL T hu
    obtain ⟨oc, od, dV, kV, doc, pm, an, cdv, ct, osl, x1, x2, x3, hD, _⟩ := F.ex
    obtain ⟨c, rc⟩ := He.codeIn_ref x3
    have cO : He.codeOf K (t.nm, none) = c := He.codeOf_eq x2 (by rw [x1]; exact rc)
    obtain ⟨uoc, uod, udV, ukV, udoc, upm, uan, ucdv, uct, uosl, y1, y2, y3, yD, _⟩ := Fu.ex
    have hmg : mg x = some (.ref (He.fAd K (u.nm, none))) := by
      rw [en]
      exact He.glo_ok T.KX T.ns (says_fact T.c (f := .glo x) (List.mem_append.mpr (.inr (List.mem_map.mpr ⟨_, mem, rfl⟩))))
    unfold lamB at lb
    simp only [Bool.and_eq_true, decide_eq_true_eq] at lb
    obtain ⟨⟨⟨⟨⟨b1, b2⟩, b3⟩, b4⟩, b5⟩, b6⟩ := lb
    have S := fscB_ok b1
    have b3 : u.N[0]? = some u.a := by simpa using b3
    subst en
    subst y1
    refine ⟨u.a, He.fAd K (u.nm, none), c, tbA K t.nm, defArgs u.st, defBody u.st, defScope u.st, udV, ukV, udoc, upm, ucdv, uct, uoc, uan, uod, uosl, u.N, by rw [b.mg]; exact hmg, by rw [b.K]; exact Fu.kp, by rw [b.K]; exact y2, by rw [b.K]; exact y3, by rw [b.K]; exact Fu.bindsN (T.kl i u hu), S, b3, locB_vis (S.par _ (List.mem_cons_self ..)), b2, fun m en G2 => ?_, by rw [b.base, b.mg, ← cO]; exact TB _ hm, by rw [hcode, x1]; exact rc, ?_, ?_, rm⟩
    · subst en
      split at b6
      · rename_i y p1 kc p2 p3 body cn p4 n1 y1 p5 n2 p6 p7 p8 p9 post hb
        simp only [Bool.and_eq_true, beq_iff_eq] at b6
        obtain ⟨⟨⟨⟨⟨⟨⟨⟨⟨⟨⟨⟨c1, c2⟩, c3⟩, c4⟩, c5⟩, c6⟩, c7⟩, c8⟩, c9⟩, c10⟩, c11⟩, c12⟩, c13⟩ := b6
        subst c1 c2
        rw [hb]
        obtain ⟨v, hv, vn⟩ := l9 _ (mem_of_lk c3)
        have hv : xs[d.cls]? = some v := hv
        have vn : v.nm = cn := vn
        have own := kn.own cn d.cls c3
        have exm := kn.exm cn d.cls c3
        have dpre : d.pre = [(d.err, .none)] := by
          revert b5
          cases d.pre with
          | nil => exact fun z => nomatch z
          | cons q r =>
            obtain ⟨j, dd⟩ := q
            cases r with
            | nil =>
              cases dd <;> first | (intro z; rw [eq_of_beq z]) | exact fun z => nomatch z
            | cons q2 r2 => cases dd <;> exact fun z => nomatch z
        refine gives_try (T := ((tbOf K xs mks).wG G).wG G2) (d := d) (jn := d.en) (jy := d.err) b.K b.gd (by rw [T.pg.lf]; exact hd) b4 dpre rfl rfl S.nd c4 c5 (by simpa using c6) (locL_ok c7) (locL_ok c8) S.kind c9 (glB_n c11) c10 own exm (fun f c' s H tl act W pn xe tk => lam_body c12 S.nd f c' s H tl act W pn xe tk) fun s H hgd hrm => ?_
        have cx : CtxOk Pr w K mg base u.N m (cxOf C8.CX0 X.prog X.w X.K X.mg X.base u.N u.nm (defScope u.st) (He.fAd K (u.nm, none)) ucdv X.A X.stack s H C8.E0).nox := ⟨b.prog, b.w, b.K, b.mg, b.base, rfl, S.nd, rfl, hgd, hrm.mono (by omega)⟩
        exact (mB_ok d.post post c13 _ _ W0 ((kn_of T cx hI (all m (Nat.le_succ _)) G).wG G2) rfl S.kind (fun _ => rfl) ⟨rfl, rfl, rfl⟩ L2.takes0 PassesOwn.never).1
      · cases b6
    · rw [eq]
      exact List.mem_map.mpr ⟨t.nm, hm, rfl⟩
    · intro p hp z
      rw [eq]
      obtain ⟨nm, hn, rfl⟩ := List.mem_map.mp hp
      have := e4 nm hn t.nm hm z
      rw [this]
  · rw [if_neg hm] at hx
    cases hx
/-- the defs of the text keep what the interpreter says -/
theorem law_text {i : Nat} {t : FT} (T : TxtOk P M tab fns lt lfs xs sub mks K h mg) (hi : tab[i]? = some t) (n : Nat) :
    ∃ fd, (∀ (s : Shared) (us : List Value), us.length = t.ps.length → BindsTo s fd ⟨us, []⟩ (t.ps.zip us)) ∧
      ∀ base : Heap, K.In base → base.Ns mainGlobals mg → (∀ nm ∈ mks, LamX.TabB base mg (He.cT K (nm, none)).1 (He.cT K (nm, none)).2) → FnG Pr w K mg base (3 * n + 3) (He.fAd K (t.nm, none)) fd t.ps (spOf (tbOf K xs mks) P n i) := by
  obtain ⟨l1, l2, l3, l4, l5, l6, l7, l8, l9, l10⟩ := look_all T
  have fd0 : ∀ i : Nat, ∃ fd : FuncData, ∀ t : FT, tab[i]? = some t → FunD K t.nm t.nm (defArgs t.st) (defBody t.st) (defScope t.st) [] [] (He.fAd K (t.nm, none)) fd := fun j => by
    cases q : tab[j]? with
    | none =>
      obtain ⟨fd, _⟩ := defT T hi
      exact ⟨fd, fun t e => by cases e⟩
    | some t =>
      obtain ⟨fd, F⟩ := defT T q
      exact ⟨fd, fun t' e => by cases e; exact F⟩
  obtain ⟨fdF, hfd⟩ := Classical.axiomOfChoice fd0
  let dft : FT := t
  let info : Nat → FnI := fun i => let t := (tab[i]?).getD dft; ⟨t.nm, t.nm, t.st, He.fAd K (t.nm, none), fdF i, t.N, t.ps⟩
  have inf : ∀ {j d}, P.fns j = some d → ∃ t, tab[j]? = some t ∧ info j = ⟨t.nm, t.nm, t.st, He.fAd K (t.nm, none), fdF j, t.N, t.ps⟩ ∧ fscB t = true ∧ t.ps.length = d.np ∧ t.N.length = d.ns ∧ d.np ≤ d.ns ∧ mB (mAt M mks t) (defScope t.st) d.body (defBody t.st) = true := fun {j d} e => by
    rw [T.pg.fn] at e
    have hl : j < tab.length := by
      rw [l2]
      exact (List.getElem?_eq_some_iff.mp e).1
    have q : tab[j]? = some tab[j] := by simp [hl]
    refine ⟨tab[j], q, ?_, l3 _ _ j q e⟩
    show (let t := (tab[j]?).getD dft; (⟨t.nm, t.nm, t.st, He.fAd K (t.nm, none), fdF j, t.N, t.ps⟩ : FnI)) = _
    rw [q]
    rfl
  have hI : Infos K tab P info := fun j d e => by
    obtain ⟨t', q1, q2, _⟩ := inf e
    rw [q2]
    exact ⟨t', q1, rfl, rfl, rfl, rfl, rfl, rfl, hfd j t' q1⟩
  have all : ∀ base : Heap, K.In base → base.Ns mainGlobals mg → (∀ nm ∈ mks, LamX.TabB base mg (He.cT K (nm, none)).1 (He.cT K (nm, none)).2) → ∀ n m, m ≤ n → AllF Pr w K mg base (tbOf K xs mks) P info m := fun base KB GB TB => allF (fun j d e => ?_) fun n ih j d e G2 W X b hs hp hcode hqual => ?_
  · refine ⟨fdF i, (hfd i t hi).bindsA (T.kw i t hi).1, fun base KB GB TB => ?_⟩
    have hl : i < fns.length := by
      rw [← l2]
      exact (List.getElem?_eq_some_iff.mp hi).1
    have e : P.fns i = some fns[i] := by rw [T.pg.fn]; simp [hl]
    have z := all base KB GB TB n n (Nat.le_refl _) i _ e
    obtain ⟨t', q1, q2, _⟩ := inf e
    rw [hi] at q1
    cases q1
    rw [q2] at z
    exact z
  · obtain ⟨t', q1, q2, a1, a2, a3, a4, a5⟩ := inf e
    rw [q2]
    obtain ⟨oc, od, dV, kV, doc, pm, an, cdv, ct, osl, x1, x2, x3, _⟩ := (hfd j t' q1).ex
    exact ⟨⟨oc, od, dV, kV, doc, pm, an, cdv, ct, osl, x1, x1 ▸ x2, x3⟩, fscB_ok a1, a2, a3, a4⟩
  · obtain ⟨t', q1, q2, a1, a2, a3, a4, a5⟩ := inf e
    rw [q2] at b hs hcode hqual ⊢
    have S := fscB_ok a1
    have cx : CtxOk Pr w K mg base t'.N n X := ⟨b.prog, b.w, b.K, b.mg, b.base, b.N, S.nd, b.calm, b.gd, b.room.mono (by omega)⟩
    have kn := kn_def (j := j) T KB cx hI ih (hfd j t' q1) hcode hqual b.room TB G2
    exact (mB_ok d.body _ a5 _ X W kn hs S.kind b.fn b.fr b.tk hp).1
end
theorem law_end {P : Pg} {M : MC} {tab : List FT} {fns : List Fn} {lt : List LT} {lfs : List LFn} {xs : List XT} {sub : List (List Nat)} {mks : List Str} {K : PySem.W.Frag} {h : Heap} {mg : Str → Option Value} {w : World} {l : PySem.W.OpenLaw} {x : Str} {i fuel : Nat} {t : FT} {fa : Addr}
    (T : TxtOk P M tab fns lt lfs xs sub mks K h mg) (sw : SaysW (faOf M P) (exAll M P xs sub mks) (fnAll tab lt xs) (mks.map fun nm => (nm, none)) h K) (hi : tab[i]? = some t) (hmg : mg t.nm = some (.ref fa)) (hps : t.ps = [x]) (hfn : M.fn.lookup t.nm = some i)
    (plain : ∀ ns : List Int, ns.length ≤ 63 → ∃ st, runF P fuel i [.p (.list (ns.map .int))] [] = .ok (.p (.bool true)) st) :
    ∃ (K : PySem.W.Frag) (fd : FuncData) (sp : Sp) (cs : List (Addr × Addr)), K.In h ∧ NoList K ∧ (∀ p ∈ cs, PySem.W.CodeHd h p.1 p.2 ∧ K.lookup p.2 = none ∧ h.get? p.2 = some emT) ∧ (∀ (s : Shared) (u : Value), BindsTo s fd ⟨[u], []⟩ [(x, u)]) ∧
        (∀ (a : Addr) (o : Obj) (ns : List Int), ns.length ≤ 63 → a ∉ cs.map (·.2) → sp [.ref a] (scrT a o ns (cs.map (·.2))) (fun v _ => v = .bl true) fun _ _ _ => False) ∧
        ∀ base : Heap, K.In base → base.Ns mainGlobals mg → (∀ p ∈ cs, LamX.TabB base mg p.1 p.2) → FnG l.prog w K mg base (3 * fuel + 3) fa fd [x] sp := by
  obtain ⟨fd, hb, hF⟩ := law_text (Pr := l.prog) (w := w) T hi fuel
  have e := hmg.symm.trans (He.glo_ok T.KX T.ns (says_fact T.c (f := .glo t.nm) (List.mem_append.mpr (.inl (List.mem_append.mpr (.inl (List.mem_append.mpr (.inl (List.mem_append.mpr (.inl (List.mem_map.mpr ⟨(t.nm, i), mem_of_lk hfn, rfl⟩)))))))))))
  cases e
  rw [hps] at hb hF
  have tI : ∀ nm ∈ mks, (He.cT K (nm, none)) ∈ mks.map fun nm => He.cT K (nm, none) := fun nm hn => List.mem_map.mpr ⟨nm, hn, rfl⟩
  refine ⟨K, fd, spOf (tbOf K xs mks) P fuel i, mks.map fun nm => He.cT K (nm, none), T.KX, sw.nl, fun p hp => ?_, fun s u => hb s [u] rfl, fun a o ns hl ha => ?_, fun base KB GB TB => hF base KB GB fun nm hn => TB _ (tI nm hn)⟩
  · obtain ⟨nm, hn, rfl⟩ := List.mem_map.mp hp
    obtain ⟨s1, s2, s3⟩ := sw.t (nm, none) (List.mem_map.mpr ⟨nm, hn, rfl⟩)
    exact ⟨PySem.W.codeHd_of_K T.KX s1, s2, s3⟩
  obtain ⟨st, hr⟩ := plain ns hl
  have S : Sim ((tbOf K xs mks).wG (fun _ => none)) (fun b => if b = a then some (.frz o (.lst (ns.map V.int))) else none) (fun _ => 0) [] (scrT a o ns ((mks.map fun nm => He.cT K (nm, none)).map (·.2))) := by
    refine ⟨fun b u e => .inl ?_, fun k c e => by simp at e, fun j k hj => by simp at hj, fun b u e => (nomatch e), fun b u e => (nomatch e), fun p hp => ?_, fun b ps e => ?_, fun b ps e => (nomatch e)⟩
    · have e : (if b = a then some (HO.frz o (.lst (ns.map V.int))) else none) = some u := e
      split at e
      · rename_i hb
        rw [hb, ← e]
        exact scrT_a
      · cases e
    · obtain ⟨nm, hn, rfl⟩ := List.mem_map.mp hp
      have mt : tbA K nm ∈ (mks.map fun nm => He.cT K (nm, none)).map (·.2) := List.mem_map.mpr ⟨_, tI nm hn, rfl⟩
      refine ⟨LamX.TabS.nil (scrT_t mt ha), ?_, rfl⟩
      exact if_neg fun z => ha (by rw [← show tbA K nm = a from z]; exact mt)
    · have e : (if b = a then some (HO.frz o (.lst (ns.map V.int))) else none) = some (.tbl ps) := e
      split at e <;> cases e
  have hd : ∃ d, P.fns i = some d ∧ [Val.p (.list (ns.map .int))].length = d.np := by
    refine runF_len (n := fuel) (st := []) (T := tbOf K xs mks) (W := fun _ _ _ _ => True) (σ := []) (F := fun _ => none) (ι := fun _ => 0) (m := 0) (Q := fun _ _ => True) ?_
    rw [hr]
    exact fun _ _ _ _ _ _ _ _ => trivial
  obtain ⟨d, h1, h2⟩ := hd
  refine ⟨fun _ => none, _, fun _ => 0, [], [.p (.list (ns.map .int))], d, S, .cons (.p (.lst (.inr ⟨o, if_pos rfl⟩) (DatL.ints ns))) .nil, h1, h2, ?_⟩
  rw [hr]
  intro F' ι' H' y N hn S' r
  cases r with
  | p r => cases r; rfl
end Vm

namespace Vm
open PySem in
theorem fl_of {xs : List XT} {fT : List (List Str)} (h : fT = xs.map (·.fs)) (c : Nat) : fT.getD c [] = ((xs[c]?).map (·.fs)).getD [] := by
  subst h
  rw [List.getD_eq_getElem?_getD, List.getElem?_map]
end Vm
end

section
/-! V40: the evaluator by what must hold. -/
namespace Vm
open PySem

abbrev EK := Nat → List (Str × PyData) → Store → Prop
def wpR {α : Type} (r : R α) (Q : α → Store → Prop) (E : EK) : Prop := match r with
  | .ok a s => Q a s
  | .er c fs s => E c fs s
  | .no => False
structure FK where
  nx : Env → Store → Prop
  rt : Val → Store → Prop
  bk : Env → Store → Prop := fun _ _ => False
  ct : Env → Store → Prop := fun _ _ => False
  er : Nat → List (Str × PyData) → Env → Store → Prop := fun _ _ _ _ => False
def wpF (r : Fl) (D : FK) : Prop := match r with
  | .nx e s => D.nx e s
  | .rt v s => D.rt v s
  | .bk e s => D.bk e s
  | .ct e s => D.ct e s
  | .er c fs e s => D.er c fs e s
  | .no => False
def wpO {α : Type} (o : Option α) (F : α → Prop) : Prop := match o with
  | some a => F a
  | none => False
def wpB (t : Bool) (A B : Prop) : Prop := (t = true → A) ∧ (t = false → B)
theorem wpO_of {α : Type} {o : Option α} {a : α} {F : α → Prop} (h : o = some a) (q : F a) : wpO o F := by rw [h]; exact q
theorem wpB_mk {t : Bool} {A B : Prop} (h1 : t = true → A) (h2 : t = false → B) : wpB t A B := ⟨h1, h2⟩
theorem wpB_t {A B : Prop} (h : A) : wpB true A B := ⟨fun _ => h, fun z => absurd z (by decide)⟩
theorem wpB_f {A B : Prop} (h : B) : wpB false A B := ⟨fun z => absurd z (by decide), fun _ => h⟩
theorem wpB_true {t : Bool} {A B : Prop} (e : t = true) (h : A) : wpB t A B := by rw [e]; exact wpB_t h
theorem wpB_false {t : Bool} {A B : Prop} (e : t = false) (h : B) : wpB t A B := by rw [e]; exact wpB_f h
section
variable {α β : Type} {Q : α → Store → Prop} {Q' : β → Store → Prop} {E : EK} {s : Store}
theorem wpR.imp {r : R α} {Q2 : α → Store → Prop} (h : wpR r Q E) (i : ∀ a s, Q a s → Q2 a s) : wpR r Q2 E := by
  cases r with
  | ok a s => exact i _ _ h
  | er c fs s => exact h
  | no => exact h
theorem wpR.eq {r : R α} {r' : R α} (h : wpR r' Q E) (e : r = r') : wpR r Q E := e ▸ h
theorem wp_ok {a : α} (q : Q a s) : wpR (.ok a s) Q E := q
theorem wp_bind {r : R α} {f : α → Store → R β} (h : wpR r (fun a s => wpR (f a s) Q' E) E) : wpR (r.bind f) Q' E := by
  cases r with
  | ok a s => exact h
  | er c fs s => exact h
  | no => exact h
theorem wp_fl {r : R α} {env : Env} {f : α → Store → Fl} {D : FK} (h : wpR r (fun a s => wpF (f a s) D) (fun c fs s => D.er c fs env s)) : wpF (r.fl env f) D := by
  cases r with
  | ok a s => exact h
  | er c fs s => exact h
  | no => exact h
theorem wp_of {o : Option α} (h : wpO o fun a => Q a s) : wpR (R.of o s) Q E := by
  cases o with
  | some a => exact h
  | none => exact h.elim
end
section
variable {K : Kit} {a b c : Ex} {env : Env} {st : Store} {Q : Val → Store → Prop} {E : EK} {i : Nat} {v : Val} {d : PyData}
theorem x_var (h : env[i]? = some (some v)) (q : Q v st) : wpR (evalX K (.var i) env st) Q E := by rw [evalX, h]; exact q
theorem x_con (q : Q (.p d) st) : wpR (evalX K (.con d) env st) Q E := by rw [evalX]; exact q
theorem x_glo {g : Nat} (h : K.con g = some d) (q : Q (.p d) st) : wpR (evalX K (.glo g) env st) Q E := by rw [evalX, h]; exact q
theorem x_bin {o : BinO} (h : wpR (evalX K a env st) (fun x s1 => wpR (evalX K b env s1) (fun y s2 => wpO (binV o (see s2 x) (see s2 y)) fun z => Q z s2) E) E) : wpR (evalX K (.bin o a b) env st) Q E := by
  rw [evalX]; exact wp_bind (h.imp fun x s1 h => wp_bind (h.imp fun y s2 h => wp_of h))
theorem x_neg (h : wpR (evalX K a env st) (fun x s => ∃ i, x = .p (.int i) ∧ Q (.p (.int (-i))) s) E) : wpR (evalX K (.neg a) env st) Q E := by
  rw [evalX]; exact wp_bind (h.imp fun x s ⟨i, e, q⟩ => by rw [e]; exact q)
theorem x_and (h : wpR (evalX K a env st) (fun x s => wpO (truthV (see s x)) fun t => wpB t (wpR (evalX K b env s) Q E) (Q x s)) E) : wpR (evalX K (.and a b) env st) Q E := by
  rw [evalX]
  refine wp_bind (h.imp fun x s h => ?_)
  cases e : truthV (see s x) with
  | none => rw [e] at h; exact h.elim
  | some t =>
    rw [e] at h
    cases t with
    | true => exact h.1 rfl
    | false => exact h.2 rfl
theorem x_or (h : wpR (evalX K a env st) (fun x s => wpO (truthV (see s x)) fun t => wpB t (Q x s) (wpR (evalX K b env s) Q E)) E) : wpR (evalX K (.or a b) env st) Q E := by
  rw [evalX]
  refine wp_bind (h.imp fun x s h => ?_)
  cases e : truthV (see s x) with
  | none => rw [e] at h; exact h.elim
  | some t =>
    rw [e] at h
    cases t with
    | true => exact h.1 rfl
    | false => exact h.2 rfl
theorem x_not (h : wpR (evalX K a env st) (fun x s => wpO (truthV (see s x)) fun t => Q (.p (.bool (!t))) s) E) : wpR (evalX K (.not a) env st) Q E := by
  rw [evalX]
  refine wp_bind (h.imp fun x s h => ?_)
  cases e : truthV (see s x) with
  | none => rw [e] at h; exact h.elim
  | some t => rw [e] at h; exact h
theorem x_ite (h : wpR (evalX K c env st) (fun x s => wpO (truthV (see s x)) fun t => wpB t (wpR (evalX K a env s) Q E) (wpR (evalX K b env s) Q E)) E) : wpR (evalX K (.ite c a b) env st) Q E := by
  rw [evalX]
  refine wp_bind (h.imp fun x s h => ?_)
  cases e : truthV (see s x) with
  | none => rw [e] at h; exact h.elim
  | some t =>
    rw [e] at h
    cases t with
    | true => exact h.1 rfl
    | false => exact h.2 rfl
theorem x_cmp {o : CmpO} (h : wpR (evalX K a env st) (fun x s1 => wpR (evalX K b env s1) (fun y s2 => wpO (cmpV o (see s2 x) (see s2 y)) fun t => Q (.p (.bool t)) s2) E) E) : wpR (evalX K (.cmp o a b) env st) Q E := by
  rw [evalX]
  refine wp_bind (h.imp fun x s1 h => wp_bind (h.imp fun y s2 h => ?_))
  cases e : cmpV o (see s2 x) (see s2 y) with
  | none => rw [e] at h; exact h.elim
  | some t => rw [e] at h; exact h
theorem x_chn {o o' : CmpO} (h : wpR (evalX K a env st) (fun x s1 => wpR (evalX K b env s1) (fun y s2 => wpO (cmpV o (see s2 x) (see s2 y)) fun t => wpB t (wpR (evalX K c env s2) (fun z s3 => wpO (cmpV o' (see s3 y) (see s3 z)) fun t => Q (.p (.bool t)) s3) E) (Q (.p (.bool false)) s2)) E) E) : wpR (evalX K (.chn o o' a b c) env st) Q E := by
  rw [evalX]
  refine wp_bind (h.imp fun x s1 h => wp_bind (h.imp fun y s2 h => ?_))
  cases e : cmpV o (see s2 x) (see s2 y) with
  | none => rw [e] at h; exact h.elim
  | some t =>
    rw [e] at h
    cases t with
    | false => exact h.2 rfl
    | true =>
      refine wp_bind ((h.1 rfl).imp fun z s3 h => ?_)
      cases e : cmpV o' (see s3 y) (see s3 z) with
      | none => rw [e] at h; exact h.elim
      | some t => rw [e] at h; exact h
theorem x_tup {es : Ex} (h : wpR (evalL K es env st) (fun vs s => vs.length ≤ SZ ∧ Q (mkT vs) s) E) : wpR (evalX K (.tup es) env st) Q E := by
  rw [evalX]; exact wp_bind (h.imp fun vs s h => by rw [if_pos h.1]; exact h.2)
theorem x_lst {f : Nat} {es : Ex} (h : wpR (evalL K es env st) (fun vs s => vs.length ≤ SZ ∧ wpR (alloc f vs s) Q E) E) : wpR (evalX K (.lst f es) env st) Q E := by
  rw [evalX]; exact wp_bind (h.imp fun vs s h => by rw [if_pos h.1]; exact h.2)
theorem x_dic {f : Nat} {es : Ex} (h : wpR (evalL K es env st) (fun vs s => wpO (pairsOf vs) fun kvs => ((kvs.all fun q => isKey1 q.1) = true ∧ kvs.length ≤ 15) ∧ wpR (allocD f (mergeV kvs) s) Q E) E) : wpR (evalX K (.dic f es) env st) Q E := by
  rw [evalX]
  refine wp_bind (h.imp fun vs s h => ?_)
  cases e : pairsOf vs with
  | none => rw [e] at h; exact h.elim
  | some kvs =>
    rw [e] at h
    simp only
    rw [if_pos h.1]
    exact h.2
theorem x_idx (h : wpR (evalX K a env st) (fun x s1 => wpR (evalX K b env s1) (fun y s2 => wpO (idxV s2 x y) fun z => Q z s2) E) E) : wpR (evalX K (.idx a b) env st) Q E := by
  rw [evalX]; exact wp_bind (h.imp fun x s1 h => wp_bind (h.imp fun y s2 h => wp_of h))
theorem x_slc {lo hi : Ex} (h : wpR (evalX K a env st) (fun x s1 => wpR (evalO K lo env s1) (fun i s2 => wpR (evalO K hi env s2) (fun j s3 => wpO (slcV s3 i j x) fun z => Q z s3) E) E) E) : wpR (evalX K (.slc a lo hi) env st) Q E := by
  rw [evalX]; exact wp_bind (h.imp fun x s1 h => wp_bind (h.imp fun y s2 h => wp_bind (h.imp fun z s3 h => wp_of h)))
theorem x_call {f : Nat} {es : Ex} (h : wpR (evalL K es env st) (fun vs s => wpR (K.fn f vs s) Q E) E) : wpR (evalX K (.call f es) env st) Q E := by
  rw [evalX]; exact wp_bind h
theorem x_callk {f n : Nat} {ks : List Str} {pm : List Nat} (h : wpR (evalL K a env st) (fun vs s => wpR (evalL K b env s) (fun ws s2 => (vs.length = n ∧ ws.length = ks.length) ∧ wpR (K.fn f (permL pm (vs ++ ws)) s2) Q E) E) E) : wpR (evalX K (.callk f n ks pm a b) env st) Q E := by
  rw [evalX]; exact wp_bind (h.imp fun vs s h => wp_bind (h.imp fun ws s h => by rw [if_pos h.1]; exact h.2))
theorem x_bi {o : Bi} {es : Ex} (h : wpR (evalL K es env st) (fun vs s => wpO (biV o vs s) fun z => Q z s) E) : wpR (evalX K (.bi o es) env st) Q E := by
  rw [evalX]; exact wp_bind (h.imp fun vs s h => wp_of h)
theorem x_newL {f : Nat} {o : Bi} {es : Ex} (h : wpR (evalL K es env st) (fun vs s => ∃ ds, biV o vs s = some (.p (.list ds)) ∧ wpR (alloc f (ds.map .p) s) Q E) E) : wpR (evalX K (.new f o es) env st) Q E := by
  rw [evalX]; exact wp_bind (h.imp fun vs s ⟨ds, e, h⟩ => by rw [e]; exact h)
theorem x_cat {f : Nat} (h : wpR (evalX K a env st) (fun x s1 => wpR (evalX K b env s1) (fun y s2 => ∃ xs ys, asL (see s2 x) = some xs ∧ asL (see s2 y) = some ys ∧ xs.length + ys.length ≤ SZ ∧ wpR (alloc f (xs ++ ys) s2) Q E) E) E) : wpR (evalX K (.cat f a b) env st) Q E := by
  have sq : ∀ {s : Store} {v : Val} {xs : List Val}, asL (see s v) = some xs → seqL s v = some xs := fun {s v xs} e => by
    unfold seqL
    generalize see s v = u at e
    cases u with
    | p d => cases d <;> first | exact e | cases e
    | l vs => exact e
    | _ => cases e
  rw [evalX]; exact wp_bind (h.imp fun x s1 h => wp_bind (h.imp fun y s2 ⟨xs, ys, e1, e2, l, h⟩ => by rw [sq e1, sq e2]; simp only; rw [if_pos l]; exact h))
theorem x_cut {f : Nat} {lo hi : Ex} (h : wpR (evalX K a env st) (fun x s1 => wpR (evalO K lo env s1) (fun i s2 => wpR (evalO K hi env s2) (fun j s3 => ∃ xs, seqL s3 x = some xs ∧ wpR (alloc f (cutL xs i j) s3) Q E) E) E) E) : wpR (evalX K (.cut f a lo hi) env st) Q E := by
  rw [evalX]; exact wp_bind (h.imp fun x s1 h => wp_bind (h.imp fun i s2 h => wp_bind (h.imp fun j s3 ⟨xs, e, h⟩ => by rw [e]; exact h)))
theorem x_mth {m : Mt} {es : Ex} (h : wpR (evalX K a env st) (fun x s1 => ∃ kd, mkind s1 x = some kd ∧ supp m kd = true ∧ wpR (evalL K es env s1) (fun vs s2 => wpR (mtV m x vs s2) Q E) E) E) : wpR (evalX K (.mth m a es) env st) Q E := by
  rw [evalX]; exact wp_bind (h.imp fun x s1 ⟨kd, e, e2, h⟩ => by rw [e]; simp only; rw [if_pos e2]; exact wp_bind h)
theorem x_isi {ts : List Ty} (h : wpR (evalX K a env st) (fun x s => wpO (isiAny K s x ts) fun t => Q (.p (.bool t)) s) E) : wpR (evalX K (.isi a ts) env st) Q E := by
  rw [evalX]
  refine wp_bind (h.imp fun x s h => ?_)
  cases e : isiAny K s x ts with
  | none => rw [e] at h; exact h.elim
  | some t => rw [e] at h; exact h
theorem x_ing {neg : Bool} {g : Nat} {ds : List PyData} (hg : K.con g = some (.tuple ds)) (hd : ds.all flatD = true) (h : wpR (evalX K a env st) (fun x s => ∃ d, see s x = .p d ∧ flatD d = true ∧ Q (.p (.bool (if neg then !(ds.any fun z => PyData.eqv z d) else ds.any fun z => PyData.eqv z d))) s) E) : wpR (evalX K (.ing neg a g) env st) Q E := by
  rw [evalX]
  refine wp_bind (h.imp fun x s ⟨d, e, f, h⟩ => ?_)
  rw [e, hg]
  simp only
  rw [if_pos ⟨f, hd⟩]
  exact h
theorem x_in {g : Nat} {ds : List PyData} (hg : K.con g = some (.tuple ds)) (hd : ds.all flatD = true) (h : wpR (evalX K a env st) (fun x s => ∃ d, see s x = .p d ∧ flatD d = true ∧ Q (.p (.bool (ds.any fun z => PyData.eqv z d))) s) E) : wpR (evalX K (.ing false a g) env st) Q E := x_ing hg hd (h.imp fun x s ⟨d, h1, h2, h3⟩ => ⟨d, h1, h2, by simpa using h3⟩)
theorem l_nil {Q : List Val → Store → Prop} (q : Q [] st) : wpR (evalL K .nil env st) Q E := by rw [evalL]; exact q
theorem l_cons {Q : List Val → Store → Prop} (h : wpR (evalX K a env st) (fun x s => wpR (evalL K b env s) (fun xs s2 => Q (x :: xs) s2) E) E) : wpR (evalL K (.cons a b) env st) Q E := by
  rw [evalL]; exact wp_bind (h.imp fun x s h => wp_bind (h.imp fun xs s2 h => h))
theorem o_nil {Q : Option Int → Store → Prop} (q : Q none st) : wpR (evalO K .nil env st) Q E := by rw [evalO]; exact q
theorem o_some {Q : Option Int → Store → Prop} (h : wpR (evalX K a env st) (fun x s => ∃ i, x = .p (.int i) ∧ Q (some i) s) E) : wpR (evalO K (.cons a b) env st) Q E := by
  rw [evalO]; exact wp_bind (h.imp fun x s ⟨i, e, h⟩ => by rw [e]; exact h)
theorem t_nil {Q : Bool → Store → Prop} (q : Q true st) : wpR (evalT K .nil env st) Q E := by rw [evalT]; exact q
theorem t_some {Q : Bool → Store → Prop} (h : wpR (evalX K a env st) (fun x s => wpO (truthV (see s x)) fun t => Q t s) E) : wpR (evalT K (.cons a b) env st) Q E := by
  rw [evalT]
  refine wp_bind (h.imp fun x s h => ?_)
  cases e : truthV (see s x) with
  | none => rw [e] at h; exact h.elim
  | some t => rw [e] at h; exact h
theorem i_rng {Q : List Val → Store → Prop} (h : wpR (evalX K a env st) (fun x s => wpR (evalX K b env s) (fun y s2 => ∃ i j, x = .p (.int i) ∧ y = .p (.int j) ∧ (-(2 ^ 62) ≤ i ∧ i < 2 ^ 62 ∧ -(2 ^ 62) ≤ j ∧ j < 2 ^ 62) ∧ Q (rangeV i j) s2) E) E) : wpR (evalI K (.rng a b) env st) Q E := by
  rw [evalI]; exact wp_bind (h.imp fun x s h => wp_bind (h.imp fun y s2 ⟨i, j, e1, e2, l, h⟩ => by rw [e1, e2]; simp only; rw [if_pos l]; exact h))
theorem i_enu {Q : List Val → Store → Prop} (h : wpR (evalX K a env st) (fun x s => wpR (frzV x s) (fun x s => wpO (asL x) fun vs => Q (enumV 0 vs) s) E) E) : wpR (evalI K (.enu a) env st) Q E := by
  rw [evalI]
  refine wp_bind (h.imp fun x s h => wp_bind (h.imp fun x s h => ?_))
  cases e : asL x with
  | none => rw [e] at h; exact h.elim
  | some t => rw [e] at h; exact h
theorem i_zip {Q : List Val → Store → Prop} (h : wpR (evalX K a env st) (fun x s => wpR (evalX K b env s) (fun y s => wpR (frzV x s) (fun x s => wpR (frzV y s) (fun y s => wpO (zipV x y) fun vs => Q vs s) E) E) E) E) : wpR (evalI K (.zip a b) env st) Q E := by
  rw [evalI]
  refine wp_bind (h.imp fun x s h => wp_bind (h.imp fun y s h => wp_bind (h.imp fun x s h => wp_bind (h.imp fun y s h => ?_))))
  cases e : zipV x y with
  | none => rw [e] at h; exact h.elim
  | some t => rw [e] at h; exact h
theorem i_cons {Q : List Val → Store → Prop} (h : wpR (evalX K a env st) (fun x s => wpR (frzV x s) (fun x s => wpO (itemsF x) fun vs => Q vs s) E) E) : wpR (evalI K (.cons a b) env st) Q E := by
  rw [evalI]
  refine wp_bind (h.imp fun x s h => wp_bind (h.imp fun x s h => ?_))
  cases e : itemsF x with
  | none => rw [e] at h; exact h.elim
  | some t => rw [e] at h; exact h
theorem frz_p {Q : Val → Store → Prop} (q : Q (.p d) st) : wpR (frzV (.p d) st) Q E := q
theorem frz_r {k : Nat} {c : Cell} (h : st[k]? = some c) (h2 : seeC c = some d) (q : Q (.p d) (st.set k (.fz d))) : wpR (frzV (.r k) st) Q E := by unfold frzV; simp only [h, h2]; exact q
/-- comprehensions: by an invariant over the items left -/
theorem lcGo_inv {turn : Val → Store → R (Option Val)} {Q : List Val → Store → Prop} (J : List Val → List Val → Store → Prop)
    (h0 : ∀ acc s, J [] acc s → Q acc s)
    (h1 : ∀ v vs acc s, J (v :: vs) acc s → wpR (turn v s) (fun o s1 => match o with | some x => J vs (acc ++ [x]) s1 | none => J vs acc s1) (fun _ _ _ => False)) :
    ∀ (items acc : List Val) (s : Store), J items acc s → wpR (lcGo turn items acc s) Q E
  | [], acc, s, j => h0 acc s j
  | v :: vs, acc, s, j => by
    have t := h1 v vs acc s j
    unfold lcGo
    cases e : turn v s with
    | ok o s1 =>
      rw [e] at t
      cases o with
      | some x => exact lcGo_inv J h0 h1 vs _ s1 t
      | none => exact lcGo_inv J h0 h1 vs _ s1 t
    | er c fs s1 => rw [e] at t; exact t.elim
    | no => rw [e] at t; exact t.elim
theorem x_lc {f : Nat} {is : List Nat} {it c e : Ex} (J : List Val → List Val → Store → Prop) (h : wpR (evalI K it env st) (fun items s => J items [] s) E)
    (h1 : ∀ v vs acc s, J (v :: vs) acc s → wpO (bindV s is v env) fun env1 => wpR (evalT K c env1 s) (fun t s1 => wpB t (wpR (evalX K e env1 s1) (fun x s2 => J vs (acc ++ [x]) s2) (fun _ _ _ => False)) (J vs acc s1)) (fun _ _ _ => False))
    (h0 : ∀ acc s, J [] acc s → acc.length ≤ SZ ∧ wpR (alloc f acc s) Q E) : wpR (evalX K (.lc f is it c e) env st) Q E := by
  rw [evalX]
  refine wp_bind (h.imp fun items s j => ?_)
  refine wp_bind (lcGo_inv J (fun acc s j => ?_) (fun v vs acc s j => ?_) items [] s j)
  · rw [if_pos (h0 acc s j).1]; exact (h0 acc s j).2
  · have k := h1 v vs acc s j
    cases e1 : bindV s is v env with
    | none => rw [e1] at k; exact k.elim
    | some env1 =>
      rw [e1] at k
      refine wp_bind (wpR.imp k fun t s1 q => ?_)
      cases t with
      | true => exact wp_bind (wpR.imp (q.1 rfl) fun x s2 q => q)
      | false => exact q.2 rfl
end
section
variable {K : Kit} {fl : Nat → List Str} {x : Ex} {m m' : Sm} {env : Env} {st : Store} {D : FK}
theorem s_skip (q : D.nx env st) : wpF (execS K fl .skip env st) D := by rw [execS]; exact q
theorem s_seq (h : wpF (execS K fl m env st) { D with nx := fun e s => wpF (execS K fl m' e s) D }) : wpF (execS K fl (.seq m m') env st) D := by
  rw [execS]
  revert h
  cases execS K fl m env st <;> exact fun h => h
theorem s_asg {i : Nat} (h : wpR (evalX K x env st) (fun v s => D.nx (env.set i (some v)) s) (fun c fs s => D.er c fs env s)) : wpF (execS K fl (.asg (.n i) x) env st) D := by
  rw [execS]; exact wp_fl h
theorem s_asgT {is : List Nat} (h : wpR (evalX K x env st) (fun v s => wpO (bindV s is v env) fun e1 => D.nx e1 s) (fun c fs s => D.er c fs env s)) : wpF (execS K fl (.asg (.t is) x) env st) D := by
  rw [execS]
  refine wp_fl (h.imp fun v s h => ?_)
  simp only
  cases e : bindV s is v env with
  | none => rw [e] at h; exact h.elim
  | some t => rw [e] at h; exact h
theorem s_sub {a i : Ex} (h : wpR (evalX K x env st) (fun v s => wpR (evalX K a env s) (fun x s => wpR (evalX K i env s) (fun y s => ∃ k j c, x = .r k ∧ y = .p j ∧ s[k]? = some c ∧ wpO (putC c j v) fun c' => D.nx env (s.set k c')) (fun c fs s => D.er c fs env s)) (fun c fs s => D.er c fs env s)) (fun c fs s => D.er c fs env s)) : wpF (execS K fl (.asg (.sub a i) x) env st) D := by
  rw [execS]
  refine wp_fl (h.imp fun v s h => wp_fl (wpR.imp h fun y s h => wp_fl (wpR.imp h fun z s ⟨k, j, c, e1, e2, e3, hq⟩ => ?_)))
  subst e1 e2
  simp only [e3]
  cases e : putC c j v with
  | none => rw [e] at hq; exact hq.elim
  | some t => rw [e] at hq; exact hq
theorem s_ex (h : wpR (evalX K x env st) (fun _ s => D.nx env s) (fun c fs s => D.er c fs env s)) : wpF (execS K fl (.ex x) env st) D := by rw [execS]; exact wp_fl h
theorem s_ret (h : wpR (evalX K x env st) (fun v s => D.rt v s) (fun c fs s => D.er c fs env s)) : wpF (execS K fl (.ret x) env st) D := by rw [execS]; exact wp_fl h
theorem s_ife (h : wpR (evalT K x env st) (fun t s => wpB t (wpF (execS K fl m env s) D) (wpF (execS K fl m' env s) D)) (fun c fs s => D.er c fs env s)) : wpF (execS K fl (.ife x m m') env st) D := by
  rw [execS]
  refine wp_fl (h.imp fun t s h => ?_)
  cases t with
  | true => exact h.1 rfl
  | false => exact h.2 rfl
theorem s_brk (q : D.bk env st) : wpF (execS K fl .brk env st) D := by rw [execS]; exact q
theorem s_cnt (q : D.ct env st) : wpF (execS K fl .cnt env st) D := by rw [execS]; exact q
theorem forGo_inv {turn : Val → Env → Store → Fl} (J : List Val → Env → Store → Prop) (h0 : ∀ e s, J [] e s → D.nx e s)
    (h1 : ∀ v vs e s, J (v :: vs) e s → wpF (turn v e s) { D with nx := J vs, ct := J vs, bk := D.nx }) : ∀ (items : List Val) (e : Env) (s : Store), J items e s → wpF (forGo turn items e s) D
  | [], e, s, j => h0 e s j
  | v :: vs, e, s, j => by
    have t := h1 v vs e s j
    unfold forGo
    revert t
    cases turn v e s with
    | nx e1 s1 => exact fun t => forGo_inv J h0 h1 vs e1 s1 t
    | ct e1 s1 => exact fun t => forGo_inv J h0 h1 vs e1 s1 t
    | bk e1 s1 => exact fun t => t
    | rt v s1 => exact fun t => t
    | er c fs e1 s1 => exact fun t => t
    | no => exact fun t => t
theorem s_for {is : List Nat} {it : Ex} (J : List Val → Env → Store → Prop) (h : wpR (evalI K it env st) (fun items s => J items env s) (fun c fs s => D.er c fs env s))
    (h1 : ∀ v vs e s, J (v :: vs) e s → wpO (bindV s is v e) fun e1 => wpF (execS K fl m e1 s) { D with nx := J vs, ct := J vs, bk := D.nx }) (h0 : ∀ e s, J [] e s → D.nx e s) : wpF (execS K fl (.for_ is it m) env st) D := by
  rw [execS]
  refine wp_fl (h.imp fun items s j => forGo_inv J h0 (fun v vs e s j => ?_) items env s j)
  have k := h1 v vs e s j
  cases e1 : bindV s is v e with
  | none => rw [e1] at k; exact k.elim
  | some t => rw [e1] at k; exact k
theorem whGo_inv {test : Env → Store → R Bool} {turn : Env → Store → Fl} (J : Nat → Env → Store → Prop) 
    (h1 : ∀ n e s, J n e s → wpR (test e s) (fun t s1 => wpB t (∃ n', n = n' + 1 ∧ wpF (turn e s1) { D with nx := J n', ct := J n', bk := D.nx }) (D.nx e s1)) (fun c fs s1 => D.er c fs e s1)) : ∀ (n w : Nat) (e : Env) (s : Store), n < w → J n e s → wpF (whGo test turn w e s) D
  | _, 0, _, _, h, _ => absurd h (Nat.not_lt_zero _)
  | n, w + 1, e, s, h, j => by
    have k := h1 n e s j
    unfold whGo
    refine wp_fl (wpR.imp k fun t s1 q => ?_)
    cases t with
    | false => exact q.2 rfl
    | true =>
      obtain ⟨n', rfl, q'⟩ := q.1 rfl
      clear q
      revert q'
      simp only
      cases turn e s1 with
      | nx e1 s2 => exact fun q => whGo_inv J h1 n' w e1 s2 (by omega) q
      | ct e1 s2 => exact fun q => whGo_inv J h1 n' w e1 s2 (by omega) q
      | bk e1 s2 => exact fun q => q
      | rt v s2 => exact fun q => q
      | er c fs e1 s2 => exact fun q => q
      | no => exact fun q => q
theorem s_whl {x : Ex} (n : Nat) (J : Nat → Env → Store → Prop) (hn : n < K.wh) (h : J n env st)
    (h1 : ∀ n e s, J n e s → wpR (evalT K x e s) (fun t s1 => wpB t (∃ n', n = n' + 1 ∧ wpF (execS K fl m e s1) { D with nx := J n', ct := J n', bk := D.nx }) (D.nx e s1)) (fun c fs s1 => D.er c fs e s1)) : wpF (execS K fl (.whl x m) env st) D := by
  rw [execS]; exact whGo_inv J h1 n _ env st hn h
end
/-- cells lead to cells -/
def WFs (st : Store) : Prop := st.all (cellBelow st.length) = true
theorem wfs_take {st s1 : Store} (w : WFs st) (h : s1.take st.length = st) : (s1.take st.length).all (cellBelow st.length) = true := by rw [h]; exact w
/-- a def that hands out data and leaves the store -/
theorem f_pure {P : Pg} {n i : Nat} {d : Fn} {vs : List Val} {st : Store} {Q : Val → Store → Prop} {E : EK} (hd : P.fns i = some d) (hl : vs.length = d.np) (hk : d.keep = false) (wf : WFs st)
    (h : wpF (execS (kitOf P n) P.fields d.body (vs.map some ++ List.replicate (d.ns - d.np) none) st)
      { nx := fun _ s => s.take st.length = st ∧ Q (.p .none) st, rt := fun v s => s.take st.length = st ∧ ∃ d, (v = .p d ∨ ∃ k, v = .r k ∧ st.length ≤ k ∧ see s v = .p d) ∧ Q (.p d) st, er := fun c fs _ s => s.take st.length = st ∧ E c fs st }) :
    wpR (runF P (n + 1) i vs st) Q E := by
  rw [runF_succ, hd]
  simp only
  unfold runB
  rw [if_pos hl]
  revert h
  cases execS (kitOf P n) P.fields d.body (vs.map some ++ List.replicate (d.ns - d.np) none) st with
  | nx e1 s =>
    intro ⟨h, q⟩
    unfold outB
    simp only
    unfold leave
    rw [hk]
    simp only
    rw [if_pos (wfs_take wf h), h]
    exact q
  | rt v s =>
    intro ⟨h, d, hv, q⟩
    unfold outB
    simp only
    unfold leave
    rw [hk]
    simp only
    rw [if_pos (wfs_take wf h)]
    rcases hv with rfl | ⟨k, rfl, hk, hs⟩
    · simp only
      rw [h]
      exact q
    · simp only
      rw [if_neg (by omega), hs, h]
      exact q
  | er c fs e1 s =>
    intro ⟨h, q⟩
    unfold outB
    simp only
    unfold leaveE
    rw [hk]
    simp only
    rw [if_pos (wfs_take wf h), h]
    exact q
  | bk e1 s => exact fun h => h.elim
  | ct e1 s => exact fun h => h.elim
  | no => exact fun h => h.elim
/-! ### more steps -/
def tyb (d : PyData) (t : Ty) : Bool := match tyD d t with
  | some b => b
  | none => false
theorem isi_p {K : Kit} {st : Store} {d : PyData} : ∀ {ts : List Ty}, ts.all isB = true → isiAny K st (.p d) ts = some (ts.any (tyb d))
  | [], _ => rfl
  | t :: ts, h => by
    rw [List.all_cons, Bool.and_eq_true] at h
    have ih := isi_p (K := K) (st := st) (d := d) h.2
    have e : isiV K st (.p d) t = some (tyb d t) := by
      unfold isiV
      simp only [see]
      rw [if_pos h.1]
      unfold tyb
      cases t <;> cases d <;> rfl
    unfold isiAny
    rw [e, List.any_cons]
    cases tyb d t with
    | true => rfl
    | false => simpa using ih
section
variable {K : Kit} {a b c : Ex} {env : Env} {st : Store} {Q : Val → Store → Prop} {E : EK}
/-- a value for sure, and the store as it was -/
def Is (K : Kit) (x : Ex) (env : Env) (st : Store) (v : Val) : Prop := evalX K x env st = .ok v st
theorem Is.of {x : Ex} {v : Val} (h : wpR (evalX K x env st) (fun w s => w = v ∧ s = st) (fun _ _ _ => False)) : Is K x env st v := by
  unfold Is
  revert h
  cases evalX K x env st with
  | ok w s => exact fun ⟨h1, h2⟩ => by rw [h1, h2]
  | er c fs s => exact fun h => h.elim
  | no => exact fun h => h.elim
theorem Is.wp {x : Ex} {v : Val} (h : Is K x env st v) (q : Q v st) : wpR (evalX K x env st) Q E := by
  unfold Is at h
  rw [h]
  exact q
theorem x_orB {t1 t2 : Bool} (h1 : Is K a env st (.p (.bool t1))) (h2 : t1 = false → Is K b env st (.p (.bool t2))) (q : Q (.p (.bool (t1 || t2))) st) : wpR (evalX K (.or a b) env st) Q E := by
  refine x_or (h1.wp (wpO_of (a := t1) rfl (wpB_mk (fun e => ?_) fun e => ?_)))
  · subst e; exact q
  · subst e; exact (h2 rfl).wp q
theorem x_andB {t1 t2 : Bool} (h1 : Is K a env st (.p (.bool t1))) (h2 : t1 = true → Is K b env st (.p (.bool t2))) (q : Q (.p (.bool (t1 && t2))) st) : wpR (evalX K (.and a b) env st) Q E := by
  refine x_and (h1.wp (wpO_of (a := t1) rfl (wpB_mk (fun e => ?_) fun e => ?_)))
  · subst e; exact (h2 rfl).wp q
  · subst e; exact q
theorem is_or {t1 t2 : Bool} (h1 : Is K a env st (.p (.bool t1))) (h2 : t1 = false → Is K b env st (.p (.bool t2))) : Is K (.or a b) env st (.p (.bool (t1 || t2))) := Is.of (x_orB h1 h2 ⟨rfl, rfl⟩)
theorem is_and {t1 t2 : Bool} (h1 : Is K a env st (.p (.bool t1))) (h2 : t1 = true → Is K b env st (.p (.bool t2))) : Is K (.and a b) env st (.p (.bool (t1 && t2))) := Is.of (x_andB h1 h2 ⟨rfl, rfl⟩)
theorem is_chnI {t1 t2 : Bool} {o o' : CmpO} {i j k : Int} (h1 : Is K a env st (.p (.int i))) (h2 : Is K b env st (.p (.int j))) (h3 : Is K c env st (.p (.int k))) (e1 : cmpD o (.int i) (.int j) = some t1) (e2 : cmpD o' (.int j) (.int k) = some t2) : Is K (.chn o o' a b c) env st (.p (.bool (t1 && t2))) := by
  refine Is.of (x_chn (h1.wp (h2.wp (wpO_of (a := t1) e1 (wpB_mk (fun e => h3.wp (wpO_of (a := t2) e2 ?_)) fun e => ?_)))))
  · rw [e]; exact ⟨rfl, rfl⟩
  · rw [e]; exact ⟨rfl, rfl⟩
/-- a comprehension whose element is reckoned without a store -/
theorem lcGo_map {turn : Val → Store → R (Option Val)} {f : Val → Val} : ∀ {items : List Val} {acc : List Val}, (∀ v ∈ items, turn v st = .ok (some (f v)) st) → lcGo turn items acc st = .ok (acc ++ items.map f) st
  | [], acc, _ => by unfold lcGo; simp
  | v :: vs, acc, h => by
    unfold lcGo
    rw [h v (List.mem_cons_self ..)]
    simp only
    rw [lcGo_map (fun w hw => h w (List.mem_cons_of_mem _ hw))]
    simp
theorem lcGo_filter {turn : Val → Store → R (Option Val)} {f : Val → Val} {p : Val → Bool} : ∀ {items : List Val} {acc : List Val}, (∀ v ∈ items, turn v st = .ok (if p v then some (f v) else none) st) → lcGo turn items acc st = .ok (acc ++ (items.filter p).map f) st
  | [], acc, _ => by unfold lcGo; simp
  | v :: vs, acc, h => by
    unfold lcGo
    rw [h v (List.mem_cons_self ..)]
    cases hp : p v with
    | true =>
      simp only [if_true]
      rw [lcGo_filter (fun w hw => h w (List.mem_cons_of_mem _ hw))]
      simp [hp]
    | false =>
      simp only [Bool.false_eq_true, if_false]
      rw [lcGo_filter (fun w hw => h w (List.mem_cons_of_mem _ hw))]
      simp [hp]
/-- [e for x in it] over data, one name, no test: data -/
theorem x_map {i : Nat} {it e : Ex} {f : PyData → PyData} (ds : List PyData) (h : wpR (evalI K it env st) (fun items s => items = ds.map .p ∧ s = st) (fun _ _ _ => False)) (hf : ∀ d ∈ ds, Is K e (env.set i (some (.p d))) st (.p (f d))) (hl : ds.length ≤ SZ)
    (q : Q (.p (.list (ds.map f))) st) : wpR (evalX K (.lc 0 [i] it .nil e) env st) Q E := by
  rw [evalX]
  have e1 : evalI K it env st = .ok (ds.map .p) st := by
    revert h
    cases evalI K it env st with
    | ok w s => exact fun ⟨h1, h2⟩ => by rw [h1, h2]
    | er c fs s => exact fun h => h.elim
    | no => exact fun h => h.elim
  rw [e1]
  simp only [R.bind_ok]
  rw [lcGo_map (f := fun v => match v with | .p d => .p (f d) | v => v) (fun v hv => ?_)]
  · simp only [R.bind_ok, List.nil_append]
    rw [if_pos (by simpa using hl)]
    have : (ds.map Val.p).map (fun v => match v with | .p d => .p (f d) | v => v) = (ds.map f).map Val.p := by simp
    rw [this]
    unfold alloc
    simp only [mkL_map]
    exact q
  · obtain ⟨d, hd, rfl⟩ := List.mem_map.mp hv
    have k := hf d hd
    unfold Is at k
    simp only [bindV, evalT, R.bind_ok, k]
/-- [e for x in it if c] over data -/
theorem x_flt {i : Nat} {it e c c' : Ex} {f : PyData → PyData} {p : PyData → Bool} (ds : List PyData) (h : wpR (evalI K it env st) (fun items s => items = ds.map .p ∧ s = st) (fun _ _ _ => False)) (hp : ∀ d ∈ ds, Is K c (env.set i (some (.p d))) st (.p (.bool (p d)))) (hf : ∀ d ∈ ds, p d = true → Is K e (env.set i (some (.p d))) st (.p (f d))) (hl : ds.length ≤ SZ)
    (q : Q (.p (.list ((ds.filter p).map f))) st) : wpR (evalX K (.lc 0 [i] it (.cons c c') e) env st) Q E := by
  rw [evalX]
  have e1 : evalI K it env st = .ok (ds.map .p) st := by
    revert h
    cases evalI K it env st with
    | ok w s => exact fun ⟨h1, h2⟩ => by rw [h1, h2]
    | er c fs s => exact fun h => h.elim
    | no => exact fun h => h.elim
  rw [e1]
  simp only [R.bind_ok]
  rw [lcGo_filter (f := fun v => match v with | .p d => .p (f d) | v => v) (p := fun v => match v with | .p d => p d | _ => false) (fun v hv => ?_)]
  · simp only [R.bind_ok, List.nil_append]
    have e2 : ((ds.map Val.p).filter (fun v => match v with | .p d => p d | _ => false)).map (fun v => match v with | .p d => .p (f d) | v => v) = ((ds.filter p).map f).map Val.p := by
      rw [List.filter_map, List.map_map, List.map_map]
      rfl
    rw [e2, if_pos (by
      rw [List.length_map, List.length_map]
      exact Nat.le_trans (List.length_filter_le _ _) hl)]
    unfold alloc
    simp only [mkL_map]
    exact q
  · obtain ⟨d, hd, rfl⟩ := List.mem_map.mp hv
    have k := hp d hd
    unfold Is at k
    simp only [bindV, evalT, R.bind_ok, k, see, truthV, truthD]
    cases z : p d with
    | true =>
      have k2 := hf d hd z
      unfold Is at k2
      simp only [k2, R.bind_ok, if_true]
    | false => simp
theorem i_lst {x : Ex} {b : Ex} {ds : List PyData} (h : Is K x env st (.p (.list ds))) : wpR (evalI K (.cons x b) env st) (fun items s => items = ds.map .p ∧ s = st) (fun _ _ _ => False) := i_cons (h.wp (frz_p (wpO_of rfl ⟨rfl, rfl⟩)))
theorem i_tup {x : Ex} {b : Ex} {ds : List PyData} (h : Is K x env st (.p (.tuple ds))) : wpR (evalI K (.cons x b) env st) (fun items s => items = ds.map .p ∧ s = st) (fun _ _ _ => False) := i_cons (h.wp (frz_p (wpO_of rfl ⟨rfl, rfl⟩)))
theorem i_str {x : Ex} {b : Ex} {z : Str} (h : Is K x env st (.p (.str z))) : wpR (evalI K (.cons x b) env st) (fun items s => items = (charsOf z).map .p ∧ s = st) (fun _ _ _ => False) := i_cons (h.wp (frz_p (wpO_of rfl ⟨rfl, rfl⟩)))
end
theorem eq_of {α : Type} {r : R α} {v : α} {st : Store} (h : wpR r (fun w s => w = v ∧ s = st) (fun _ _ _ => False)) : r = .ok v st := by
  revert h
  cases r with
  | ok w s => exact fun ⟨h1, h2⟩ => by rw [h1, h2]
  | er c fs s => exact fun h => h.elim
  | no => exact fun h => h.elim
theorem wp_eq {α : Type} {r : R α} {v : α} {st : Store} {Q : α → Store → Prop} {E : EK} (h : r = .ok v st) (q : Q v st) : wpR r Q E := by rw [h]; exact q
/-- what a def hands out, the store as it was -/
theorem f_is {P : Pg} {n i : Nat} {d : Fn} {vs : List Val} {st : Store} {r : PyData} (hd : P.fns i = some d) (hl : vs.length = d.np) (hk : d.keep = false) (wf : WFs st)
    (h : wpF (execS (kitOf P n) P.fields d.body (vs.map some ++ List.replicate (d.ns - d.np) none) st)
      { nx := fun _ s => s.take st.length = st ∧ r = .none, rt := fun v s => s.take st.length = st ∧ (v = .p r ∨ ∃ k, v = .r k ∧ st.length ≤ k ∧ see s v = .p r) }) :
    runF P (n + 1) i vs st = .ok (.p r) st := by
  refine eq_of (f_pure hd hl hk wf ?_)
  revert h
  cases execS (kitOf P n) P.fields d.body (vs.map some ++ List.replicate (d.ns - d.np) none) st with
  | nx e s => exact fun ⟨h, e⟩ => ⟨h, by rw [e], rfl⟩
  | rt v s => exact fun ⟨h, e⟩ => ⟨h, r, e, rfl, rfl⟩
  | er c fs e s => exact fun h => h.elim
  | bk e1 s => exact fun h => h.elim
  | ct e1 s => exact fun h => h.elim
  | no => exact fun h => h.elim
theorem is_call {P : Pg} {n f : Nat} {es : Ex} {env : Env} {st : Store} {vs : List Val} {v : Val} (h1 : evalL (kitOf P n) es env st = .ok vs st) (h2 : runF P n f vs st = .ok v st) : Is (kitOf P n) (.call f es) env st v := by
  unfold Is
  rw [evalX, h1]
  exact h2
end Vm
end

section
/-! V41: steps in short. -/
namespace Vm
open PySem
local macro_rules | `(tactic| walk_at "x1") => `(tactic| first
  | (with_reducible refine x_var ?_ ?_; exact rfl) | (with_reducible refine x_con ?_) | (with_reducible refine x_glo ?_ ?_; exact rfl) | (with_reducible refine x_bin ?_) | (with_reducible refine x_and ?_) | (with_reducible refine x_or ?_) | (with_reducible refine x_not ?_)
  | (with_reducible refine x_ite ?_) | (with_reducible refine x_cmp ?_) | (with_reducible refine x_chn ?_) | (with_reducible refine x_tup ?_) | (with_reducible refine x_lst ?_) | (with_reducible refine x_idx ?_) | (with_reducible refine x_slc ?_) | (with_reducible refine x_call ?_) | (with_reducible refine x_callk ?_)
  | (with_reducible refine x_bi ?_) | (with_reducible refine x_mth ?_) | (with_reducible refine x_isi ?_) | (with_reducible refine l_nil ?_) | (with_reducible refine l_cons ?_) | (with_reducible refine o_nil ?_) | (with_reducible refine o_some ?_) | (with_reducible refine t_nil ?_) | (with_reducible refine t_some ?_)
  | (with_reducible refine s_skip ?_) | (with_reducible refine s_seq ?_) | (with_reducible refine s_asg ?_) | (with_reducible refine s_asgT ?_) | (with_reducible refine s_ex ?_) | (with_reducible refine s_ret ?_) | (with_reducible refine s_ife ?_)
  | (with_reducible refine wpO_of ?_ ?_; exact rfl) | (with_reducible refine wpO_of (isi_p ?_) ?_; exact rfl))
local macro_rules | `(tactic| walk_at "xs") => `(tactic| repeat (walk_at "x1"; try dsimp only))
local macro_rules | `(tactic| walk_at "is") => `(tactic| (refine Is.of ?_; walk_at "xs"; exact ⟨rfl, rfl⟩))
theorem boolsOf_map {α : Type} (f : α → Bool) : ∀ l : List α, boolsOf (l.map fun a => PyData.bool (f a)) = some (l.map f)
  | [] => rfl
  | a :: l => by simp [boolsOf, boolsOf_map f l]
theorem all_bools {α : Type} (f : α → Bool) (l : List α) : biD .all (.list (l.map fun a => PyData.bool (f a))) = some (.bool (l.all f)) := by
  simp [biD, boolsOf_map, List.all_map]
theorem any_bools {α : Type} (f : α → Bool) (l : List α) : biD .any (.list (l.map fun a => PyData.bool (f a))) = some (.bool (l.any f)) := by
  simp [biD, boolsOf_map, List.any_map]
theorem in_sign (c : Nat) (z : Str) : inD (.str ⟨#[c]⟩) (.str z) = some (decide (c ∈ z.cps.toList)) := by
  show some _ = _
  rw [StrLaws.found_one]
abbrev dot : Str := "."
theorem dot_tl : TL.tl dot = [46] := by decide +kernel
theorem split_le (x y : Str) : (Txt.split x y).length ≤ x.length + 2 := PyProof.Rows.split_le x y
theorem isD_split {K : Kit} {a : Ex} {env : Vm.Env} {st : Store} {s b : Str} (ha : Is K a env st (.p (.str s))) (hb : (b.length == 0) = false) (h : s.length + 2 ≤ SZ) : Is K (.mth .split a (.cons (.con (.str b)) .nil)) env st (.p (.list ((Txt.split s b).map .str))) := by
  refine Is.of (x_mth (ha.wp ⟨.str, rfl, rfl, l_cons (x_con (l_nil ?_))⟩))
  show wpR (R.of ((mtP .split (.str s) [.str b]).map Val.p) st) _ _
  refine wp_of (wpO_of (a := .p (.list ((Txt.split s b).map .str))) ?_ ⟨rfl, rfl⟩)
  show (if (b.length == 0) = false ∧ s.length + 2 ≤ SZ then some (PyData.list ((Txt.split s b).map .str)) else none).map Val.p = _
  rw [if_pos ⟨hb, h⟩]
  rfl
theorem split_mem {s b : Str} {w : Str} (hy : TL.tl b ≠ []) (hk : b.cps.all (· < 256) = true) (h : w ∈ Txt.split s b) : w.length ≤ s.length := by
  have j := StrLaws.join_split s b
  have : ∀ (l : List Str) (w : Str), w ∈ l → w.length ≤ (Str.join b l).length := by
    intro l
    induction l with
    | nil => intro w h; cases h
    | cons x l ih =>
      intro w h
      cases l with
      | nil =>
        rcases List.mem_cons.mp h with rfl | h
        · exact Nat.le_refl _
        · cases h
      | cons y l =>
        have e : (Str.join b (x :: y :: l)).length = x.length + b.length + (Str.join b (y :: l)).length := by
          show (x ++ b ++ Str.join b (y :: l)).length = _
          simp only [Str.length, Str.cps_append, Array.size_append]
        rcases List.mem_cons.mp h with rfl | h
        · omega
        · have := ih w h
          omega
  have k := this _ w h
  rw [j] at k
  exact k
theorem len_list {K : Kit} {a : Ex} {env : Vm.Env} {st : Store} {ds : List PyData} (ha : Is K a env st (.p (.list ds))) : Is K (.bi .len (.cons a .nil)) env st (.p (.int ds.length)) := Is.of (x_bi (l_cons (ha.wp (l_nil (wpO_of (a := .p (.int ds.length)) rfl ⟨rfl, rfl⟩)))))
theorem len_tup {K : Kit} {a : Ex} {env : Vm.Env} {st : Store} {ds : List PyData} (ha : Is K a env st (.p (.tuple ds))) : Is K (.bi .len (.cons a .nil)) env st (.p (.int ds.length)) := Is.of (x_bi (l_cons (ha.wp (l_nil (wpO_of (a := .p (.int ds.length)) rfl ⟨rfl, rfl⟩)))))
theorem len_str {K : Kit} {a : Ex} {env : Vm.Env} {st : Store} {s : Str} (ha : Is K a env st (.p (.str s))) (h : s.length ≤ SZ) : Is K (.bi .len (.cons a .nil)) env st (.p (.int s.length)) := Is.of (x_bi (l_cons (ha.wp (l_nil (wpO_of (a := .p (.int s.length)) (by
  show (biD .len (.str s)).map Val.p = _
  unfold biD
  simp only
  rw [if_pos h]
  rfl) ⟨rfl, rfl⟩)))))
theorem is_cmpI {K : Kit} {a b : Ex} {env : Vm.Env} {st : Store} {o : CmpO} {i j : Int} {t : Bool} (h1 : Is K a env st (.p (.int i))) (h2 : Is K b env st (.p (.int j))) (e : cmpD o (.int i) (.int j) = some t) : Is K (.cmp o a b) env st (.p (.bool t)) := Is.of (x_cmp (h1.wp (h2.wp (wpO_of (a := t) e ⟨rfl, rfl⟩))))
theorem eq_ints (i j : Int) : cmpD .eq (.int i) (.int j) = some (i == j) := by simp [cmpD, eqD, flat2, PyData.eqv]
theorem eq_strs (a b : Str) : cmpD .eq (.str a) (.str b) = some (a == b) := by simp [cmpD, eqD, flat2, PyData.eqv]
theorem is_eqS {K : Kit} {a b : Ex} {env : Vm.Env} {st : Store} {x y : Str} (h1 : Is K a env st (.p (.str x))) (h2 : Is K b env st (.p (.str y))) : Is K (.cmp .eq a b) env st (.p (.bool (x == y))) := Is.of (x_cmp (h1.wp (h2.wp (wpO_of (a := x == y) (eq_strs x y) ⟨rfl, rfl⟩))))
theorem is_eqI {K : Kit} {a b : Ex} {env : Vm.Env} {st : Store} {x y : Int} (h1 : Is K a env st (.p (.int x))) (h2 : Is K b env st (.p (.int y))) : Is K (.cmp .eq a b) env st (.p (.bool (x == y))) := Is.of (x_cmp (h1.wp (h2.wp (wpO_of (a := x == y) (eq_ints x y) ⟨rfl, rfl⟩))))
/-- all([f(x) for x in ds]) -/
theorem is_all {K : Kit} {it e : Ex} {env : Vm.Env} {st : Store} {i : Nat} {f : PyData → Bool} {ds : List PyData} (h : wpR (evalI K it env st) (fun items s => items = ds.map .p ∧ s = st) (fun _ _ _ => False)) (hf : ∀ d ∈ ds, Is K e (env.set i (some (.p d))) st (.p (.bool (f d)))) (hl : ds.length ≤ SZ) :
    Is K (.bi .all (.cons (.lc 0 [i] it .nil e) .nil)) env st (.p (.bool (ds.all f))) := by
  refine Is.of (x_bi (l_cons (x_map (f := fun d => .bool (f d)) ds h hf hl (l_nil (wpO_of (a := .p (.bool (ds.all f))) ?_ ⟨rfl, rfl⟩)))))
  show (biD .all (.list _)).map Val.p = _
  rw [all_bools]
  rfl
theorem is_1 {P : Pg} {n f : Nat} {a : Ex} {env : Vm.Env} {st : Store} {v r : Val} (h1 : Is (kitOf P n) a env st v) (h2 : runF P n f [v] st = .ok r st) : Is (kitOf P n) (.call f (.cons a .nil)) env st r := is_call (vs := [v]) (eq_of (l_cons (h1.wp (l_nil ⟨rfl, rfl⟩)))) h2
theorem is_2 {P : Pg} {n f : Nat} {a b : Ex} {env : Vm.Env} {st : Store} {v w r : Val} (h1 : Is (kitOf P n) a env st v) (h0 : Is (kitOf P n) b env st w) (h2 : runF P n f [v, w] st = .ok r st) : Is (kitOf P n) (.call f (.cons a (.cons b .nil))) env st r := is_call (vs := [v, w]) (eq_of (l_cons (h1.wp (l_cons (h0.wp (l_nil ⟨rfl, rfl⟩)))))) h2
theorem all_strs (l : List Str) (f : PyData → Bool) (g : Str → Bool) (h : ∀ s, f (.str s) = g s) : (l.map PyData.str).all f = l.all g := by
  rw [List.all_map]
  congr 1
  funext s
  exact h s
/-- return of what is reckoned -/
theorem ret_is {K : Kit} {fl : Nat → List Str} {x : Ex} {env : Vm.Env} {st : Store} {D : FK} {v : Val} (h : Is K x env st v) (q : D.rt v st) : wpF (execS K fl (.ret x) env st) D := s_ret (h.wp q)
theorem if_is {K : Kit} {fl : Nat → List Str} {x b : Ex} {m m' : Sm} {env : Vm.Env} {st : Store} {D : FK} {t : Bool} (h : Is K x env st (.p (.bool t))) (h1 : t = true → wpF (execS K fl m env st) D) (h2 : t = false → wpF (execS K fl m' env st) D) : wpF (execS K fl (.ife (.cons x b) m m') env st) D :=
  s_ife (t_some (h.wp (wpO_of (a := t) rfl (wpB_mk h1 h2))))
theorem asg_is {K : Kit} {fl : Nat → List Str} {x : Ex} {i : Nat} {env : Vm.Env} {st : Store} {D : FK} {v : Val} (h : Is K x env st v) (q : D.nx (env.set i (some v)) st) : wpF (execS K fl (.asg (.n i) x) env st) D := s_asg (h.wp q)
theorem isD_lstrip {K : Kit} {a : Ex} {env : Vm.Env} {st : Store} {s b : Str} (ha : Is K a env st (.p (.str s))) (h : s.length ≤ SZ) : Is K (.mth .lstrip a (.cons (.con (.str b)) .nil)) env st (.p (.str (Txt.lstripChars s b))) := by
  refine Is.of (x_mth (ha.wp ⟨.str, rfl, rfl, l_cons (x_con (l_nil ?_))⟩))
  show wpR (R.of ((mtP .lstrip (.str s) [.str b]).map Val.p) st) _ _
  refine wp_of (wpO_of (a := .p (.str (Txt.lstripChars s b))) ?_ ⟨rfl, rfl⟩)
  show (if s.length ≤ SZ then some (PyData.str (Txt.lstripChars s b)) else none).map Val.p = _
  rw [if_pos h]
  rfl
theorem lstrip_le (x y : Str) : (Txt.lstripChars x y).length ≤ x.length := PyProof.Rows.len_lstripChars x y
theorem is_sub {K : Kit} {a b : Ex} {env : Vm.Env} {st : Store} {i j : Int} (h1 : Is K a env st (.p (.int i))) (h2 : Is K b env st (.p (.int j))) : Is K (.bin .sub a b) env st (.p (.int (i - j))) := Is.of (x_bin (h1.wp (h2.wp (wpO_of (a := .p (.int (i - j))) rfl ⟨rfl, rfl⟩))))
theorem is_add {K : Kit} {a b : Ex} {env : Vm.Env} {st : Store} {i j : Int} (h1 : Is K a env st (.p (.int i))) (h2 : Is K b env st (.p (.int j))) : Is K (.bin .add a b) env st (.p (.int (i + j))) := Is.of (x_bin (h1.wp (h2.wp (wpO_of (a := .p (.int (i + j))) rfl ⟨rfl, rfl⟩))))
theorem is_not {K : Kit} {a : Ex} {env : Vm.Env} {st : Store} {t : Bool} (h1 : Is K a env st (.p (.bool t))) : Is K (.not a) env st (.p (.bool (!t))) := Is.of (x_not (h1.wp (wpO_of (a := t) rfl ⟨rfl, rfl⟩)))
theorem is_isi {K : Kit} {a : Ex} {env : Vm.Env} {st : Store} {d : PyData} {ts : List Ty} (h1 : Is K a env st (.p d)) (h : ts.all isB = true) : Is K (.isi a ts) env st (.p (.bool (ts.any (tyb d)))) := Is.of (x_isi (h1.wp (wpO_of (isi_p h) ⟨rfl, rfl⟩)))
theorem is_var {K : Kit} {env : Vm.Env} {st : Store} {i : Nat} {v : Val} (h : env[i]? = some (some v)) : Is K (.var i) env st v := Is.of (x_var h ⟨rfl, rfl⟩)
theorem is_con {K : Kit} {env : Vm.Env} {st : Store} {d : PyData} : Is K (.con d) env st (.p d) := Is.of (x_con ⟨rfl, rfl⟩)
theorem is_glo {K : Kit} {env : Vm.Env} {st : Store} {g : Nat} {d : PyData} (h : K.con g = some d) : Is K (.glo g) env st (.p d) := Is.of (x_glo h ⟨rfl, rfl⟩)
mutual
/-- nothing in it is long -/
def tame : PyData → Bool
  | .str s => decide (s.length ≤ 4096)
  | .list ds => decide (ds.length ≤ 4096) && tameL ds
  | .tuple ds => decide (ds.length ≤ 4096) && tameL ds
  | _ => true
def tameL : List PyData → Bool
  | [] => true
  | d :: ds => tame d && tameL ds
end
theorem tameL_mem : ∀ {ds : List PyData}, tameL ds = true → ∀ d ∈ ds, tame d = true
  | d :: ds, h, e, he => by
    rw [tameL, Bool.and_eq_true] at h
    rcases List.mem_cons.mp he with rfl | he
    · exact h.1
    · exact tameL_mem h.2 e he
theorem tameL_of : ∀ {ds : List PyData}, (∀ d ∈ ds, tame d = true) → tameL ds = true
  | [], _ => by rw [tameL]
  | d :: ds, h => by rw [tameL, h d (List.mem_cons_self ..), tameL_of fun e he => h e (List.mem_cons_of_mem _ he)]; rfl
theorem tame_str {s : Str} (h : tame (.str s) = true) : s.length ≤ 4096 := by rw [tame, decide_eq_true_eq] at h; exact h
theorem tame_tup {ds : List PyData} (h : tame (.tuple ds) = true) : ds.length ≤ 4096 ∧ ∀ d ∈ ds, tame d = true := by
  rw [tame, Bool.and_eq_true, decide_eq_true_eq] at h
  exact ⟨h.1, tameL_mem h.2⟩
theorem tame_list {ds : List PyData} (h : tame (.list ds) = true) : ds.length ≤ 4096 ∧ ∀ d ∈ ds, tame d = true := by
  rw [tame, Bool.and_eq_true, decide_eq_true_eq] at h
  exact ⟨h.1, tameL_mem h.2⟩
theorem tame_mk {ds : List PyData} (h : ds.length ≤ 4096) (h2 : ∀ d ∈ ds, tame d = true) : tame (.tuple ds) = true := by
  rw [tame, Bool.and_eq_true, decide_eq_true_eq]
  exact ⟨h, tameL_of h2⟩
theorem SZ4 : 4096 + 4 ≤ SZ := by decide
theorem tame_s {d : PyData} (h : tame d = true) (s : Str) (e : d = .str s) : s.length + 2 ≤ SZ := by
  subst e
  have := tame_str h
  have := SZ4
  omega
theorem idx_tup {st : Store} {ds : List PyData} {j : Nat} {d : PyData} (h : ds[j]? = some d) : idxV st (.p (.tuple ds)) (.p (.int (j : Int))) = some (.p d) := by
  show (idxD (.tuple ds) (.int (j : Int))).map Val.p = _
  unfold idxD atL
  simp only
  rw [L2.atI_nat h]
  rfl
theorem idx_list {st : Store} {ds : List PyData} {j : Nat} {d : PyData} (h : ds[j]? = some d) : idxV st (.p (.list ds)) (.p (.int (j : Int))) = some (.p d) := by
  show (idxD (.list ds) (.int (j : Int))).map Val.p = _
  unfold idxD atL
  simp only
  rw [L2.atI_nat h]
  rfl
theorem is_tup {K : Kit} {a : Ex} {env : Vm.Env} {st : Store} {ds : List PyData} {d : PyData} (j : Nat) (h1 : Is K a env st (.p (.tuple ds))) (h : ds[j]? = some d) : Is K (.idx a (.con (.int (j : Int)))) env st (.p d) := Is.of (x_idx (h1.wp (x_con (wpO_of (a := .p d) (idx_tup h) ⟨rfl, rfl⟩))))
theorem is_list {K : Kit} {a : Ex} {env : Vm.Env} {st : Store} {ds : List PyData} {d : PyData} (j : Nat) (h1 : Is K a env st (.p (.list ds))) (h : ds[j]? = some d) : Is K (.idx a (.con (.int (j : Int)))) env st (.p d) := Is.of (x_idx (h1.wp (x_con (wpO_of (a := .p d) (idx_list h) ⟨rfl, rfl⟩))))
theorem shaped_nil : SeqAt.shaped (.list []) = true := by decide +kernel
theorem eq_nilL (ds : List PyData) : eqD (.list ds) (.list []) = some ds.isEmpty := by
  unfold eqD
  rw [if_neg (by simp [flat2])]
  cases ds with
  | nil => rw [if_pos ⟨shaped_nil, shaped_nil⟩]; rfl
  | cons d ds =>
    split
    · rfl
    · rfl
theorem shaped_nilT : SeqAt.shaped (.tuple []) = true := by decide +kernel
theorem eq_nilT (ds : List PyData) : eqD (.tuple ds) (.tuple []) = some ds.isEmpty := by
  unfold eqD
  rw [if_neg (by simp [flat2])]
  cases ds with
  | nil => rw [if_pos ⟨shaped_nilT, shaped_nilT⟩]; rfl
  | cons d ds =>
    split
    · rfl
    · rfl
theorem is_eqNil {K : Kit} {a : Ex} {env : Vm.Env} {st : Store} {ds : List PyData} (h1 : Is K a env st (.p (.list ds))) : Is K (.cmp .eq a (.lst 0 .nil)) env st (.p (.bool ds.isEmpty)) := Is.of (x_cmp (h1.wp (x_lst (l_nil ⟨by decide, wpO_of (a := ds.isEmpty) (eq_nilL ds) ⟨rfl, rfl⟩⟩))))
theorem is_lst {K : Kit} {es : Ex} {env : Vm.Env} {st : Store} {ds : List PyData} (h : evalL K es env st = .ok (ds.map .p) st) (hl : ds.length ≤ SZ) : Is K (.lst 0 es) env st (.p (.list ds)) := by
  refine Is.of (x_lst (wp_eq h ⟨by simpa using hl, ?_⟩))
  unfold alloc
  simp only [mkL_map]
  exact ⟨rfl, rfl⟩
theorem is_tupE {K : Kit} {es : Ex} {env : Vm.Env} {st : Store} {ds : List PyData} (h : evalL K es env st = .ok (ds.map .p) st) (hl : ds.length ≤ SZ) : Is K (.tup es) env st (.p (.tuple ds)) := by
  refine Is.of (x_tup (wp_eq h ⟨by simpa using hl, ?_⟩))
  rw [mkT_map]
  exact ⟨rfl, rfl⟩
theorem is_addL {K : Kit} {a b : Ex} {env : Vm.Env} {st : Store} {xs ys : List PyData} (h1 : Is K a env st (.p (.list xs))) (h2 : Is K b env st (.p (.list ys))) (h : xs.length + ys.length ≤ SZ) : Is K (.bin .add a b) env st (.p (.list (xs ++ ys))) := Is.of (x_bin (h1.wp (h2.wp (wpO_of (a := .p (.list (xs ++ ys))) (by
  show (binD .add (.list xs) (.list ys)).map Val.p = _
  unfold binD
  simp only
  rw [if_pos h]
  rfl) ⟨rfl, rfl⟩))))
theorem is_inL {K : Kit} {a b : Ex} {env : Vm.Env} {st : Store} {d : PyData} {ds : List PyData} (h1 : Is K a env st (.p d)) (h2 : Is K b env st (.p (.list ds))) (f1 : flatD d = true) (f2 : ds.all flatD = true) : Is K (.cmp .isin a b) env st (.p (.bool (ds.any fun z => PyData.eqv z d))) := Is.of (x_cmp (h1.wp (h2.wp (wpO_of (a := ds.any fun z => PyData.eqv z d) (by
  show inD d (.list ds) = _
  unfold inD
  simp only
  rw [if_pos (.inl ⟨f1, f2⟩)]) ⟨rfl, rfl⟩))))
/-- [x for x in it if c] -/
theorem is_flt {K : Kit} {it c c' : Ex} {env : Vm.Env} {st : Store} {i : Nat} {p : PyData → Bool} (ds : List PyData) (h : wpR (evalI K it env st) (fun items s => items = ds.map .p ∧ s = st) (fun _ _ _ => False)) (hp : ∀ d ∈ ds, Is K c (env.set i (some (.p d))) st (.p (.bool (p d)))) (hi : i < env.length) (hl : ds.length ≤ SZ) :
    Is K (.lc 0 [i] it (.cons c c') (.var i)) env st (.p (.list (ds.filter p))) := by
  refine Is.of (x_flt (f := fun d => d) (p := p) ds h hp (fun d hd _ => is_var (by simp [hi])) hl ?_)
  simp
theorem isEmpty_filter {α : Type} (l : List α) (p : α → Bool) : (l.filter fun a => !p a).isEmpty = l.all p := by
  induction l with
  | nil => rfl
  | cons a l ih =>
    rw [List.filter_cons, List.all_cons]
    cases h : p a with
    | true => simp [ih]
    | false => simp
mutual
theorem below_mono {n m : Nat} (h : n ≤ m) : ∀ v : Val, below n v = true → below m v = true
  | .p _, _ => by rw [below]
  | .r k, q => by
    rw [below, decide_eq_true_eq] at q ⊢
    omega
  | .t xs, q => by
    rw [below] at q ⊢
    exact belowL_mono h xs q
  | .l xs, q => by
    rw [below] at q ⊢
    exact belowL_mono h xs q
  | .x _ _, _ => by rw [below]
theorem belowL_mono {n m : Nat} (h : n ≤ m) : ∀ vs : List Val, belowL n vs = true → belowL m vs = true
  | [], _ => by rw [belowL]
  | v :: vs, q => by
    rw [belowL, Bool.and_eq_true] at q ⊢
    exact ⟨below_mono h v q.1, belowL_mono h vs q.2⟩
end
theorem cell_mono {n m : Nat} (h : n ≤ m) : ∀ c : Cell, cellBelow n c = true → cellBelow m c = true
  | .pl _, _ => rfl
  | .ml vs, q => belowL_mono h vs q
  | .pd _, _ => rfl
  | .md kvs, q => belowL_mono h _ q
  | .ob _ fs, q => belowL_mono h _ q
  | .fz _, _ => rfl
  | .lk c, q => cell_mono h c q
theorem WFs.app {st ext : Store} (w : WFs st) (h : ext.all (cellBelow (st.length + ext.length)) = true) : WFs (st ++ ext) := by
  unfold WFs
  rw [List.length_append, List.all_append, h, Bool.and_true, List.all_eq_true]
  intro c hc
  exact cell_mono (Nat.le_add_right _ _) c (List.all_eq_true.mp w c hc)
theorem x_append {K : Kit} {es : Ex} {env : Vm.Env} {s : Store} {i k : Nat} {ds : List PyData} {d : PyData} {Q : Val → Store → Prop} {E : EK} (he : env[i]? = some (some (.r k))) (hk : s[k]? = some (.pl ds)) (h : Is K es env s (.p d)) (hl : ds.length < SZ) (q : Q (.p .none) (s.set k (.pl (ds ++ [d])))) : wpR (evalX K (.mth .append (.var i) (.cons es .nil)) env s) Q E := by
  refine x_mth (x_var he ⟨.list, ?_, rfl, l_cons (h.wp (l_nil ?_))⟩)
  · unfold mkind see
    simp only [hk, seeC]
  · unfold mtV
    simp only [hk, mtC]
    rw [if_pos hl]
    exact q
theorem see_rd {s : Store} {k : Nat} {c : Cell} {d : PyData} (h : s[k]? = some c) (h2 : seeC c = some d) : see s (.r k) = .p d := by
  unfold see
  simp only [h, h2]
theorem for_cons {K : Kit} {fl : Nat → List Str} {turn : Val → Vm.Env → Store → Fl} {v : Val} {vs : List Val} {e : Vm.Env} {s : Store} {D : FK} (h : wpF (turn v e s) { D with nx := fun e s => wpF (forGo turn vs e s) D, ct := fun e s => wpF (forGo turn vs e s) D, bk := D.nx }) : wpF (forGo turn (v :: vs) e s) D := by
  unfold forGo
  revert h
  cases turn v e s <;> exact fun h => h
theorem mtV_r {m : Mt} {s : Store} {k : Nat} {c c' : Cell} {v : Val} {vs : List Val} (h : s[k]? = some c) (h2 : mtC m c vs (vs.map (see s)) = some (v, c')) : mtV m (.r k) vs s = .ok v (s.set k c') := by
  unfold mtV
  simp only [h, h2]
theorem wpR.any {α : Type} {r : R α} {Q Q2 : α → Store → Prop} {E : EK} (h : wpR r Q (fun _ _ _ => False)) (i : ∀ a s, Q a s → Q2 a s) : wpR r Q2 E := by
  cases r with
  | ok a s => exact i _ _ h
  | er c fs s => exact h.elim
  | no => exact h
theorem is_nisi {K : Kit} {a : Ex} {env : Vm.Env} {st : Store} {d : PyData} {ts : List Ty} {t : Bool} (h1 : Is K a env st (.p d)) (h : ts.all isB = true) (e : ts.any (tyb d) = t) : Is K (.not (.isi a ts)) env st (.p (.bool (!t))) := by
  rw [← e]
  exact is_not (is_isi h1 h)
theorem is_eqEmp {K : Kit} {a : Ex} {env : Vm.Env} {st : Store} {ds : List PyData} {t : Bool} (h1 : Is K a env st (.p (.tuple ds))) (e : ds.isEmpty = t) : Is K (.cmp .eq a (.tup .nil)) env st (.p (.bool t)) := by
  subst e
  exact Is.of (x_cmp (h1.wp (x_tup (l_nil ⟨by decide, wpO_of (a := ds.isEmpty) (show eqD (.tuple ds) (.tuple []) = _ from eq_nilT ds) ⟨rfl, rfl⟩⟩))))
theorem strsOf_map : ∀ ys : List Str, strsOf (ys.map .str) = some ys
  | [] => rfl
  | y :: ys => by simp [strsOf, strsOf_map ys]
theorem is_join {K : Kit} {a : Ex} {env : Vm.Env} {st : Store} {ys : List Str} {sep : Str} (h1 : Is K a env st (.p (.list (ys.map .str)))) (h : joinSz ys sep = true) : Is K (.mth .join (.con (.str sep)) (.cons a .nil)) env st (.p (.str (Txt.join sep ys))) := by
  refine Is.of (x_mth (x_con ⟨.str, rfl, rfl, l_cons (h1.wp (l_nil ?_))⟩))
  show wpR (R.of ((mtP .join (.str sep) [.list (ys.map .str)]).map Val.p) st) _ _
  refine wp_of (wpO_of (a := .p (.str (Txt.join sep ys))) ?_ ⟨rfl, rfl⟩)
  show (match strsOf (ys.map .str) with | some ys => if joinSz ys sep = true then some (PyData.str (Txt.join sep ys)) else none | none => none).map Val.p = _
  rw [strsOf_map]
  simp only
  rw [if_pos h]
  rfl
theorem is_joinT {K : Kit} {a : Ex} {env : Vm.Env} {st : Store} {ys : List Str} {sep : Str} (h1 : Is K a env st (.p (.tuple (ys.map .str)))) (h : joinSz ys sep = true) : Is K (.mth .join (.con (.str sep)) (.cons a .nil)) env st (.p (.str (Txt.join sep ys))) := by
  refine Is.of (x_mth (x_con ⟨.str, rfl, rfl, l_cons (h1.wp (l_nil ?_))⟩))
  show wpR (R.of ((mtP .join (.str sep) [.tuple (ys.map .str)]).map Val.p) st) _ _
  refine wp_of (wpO_of (a := .p (.str (Txt.join sep ys))) ?_ ⟨rfl, rfl⟩)
  show (match strsOf (ys.map .str) with | some ys => if joinSz ys sep = true then some (PyData.str (Txt.join sep ys)) else none | none => none).map Val.p = _
  rw [strsOf_map]
  simp only
  rw [if_pos h]
  rfl
theorem cutL_from {α : Type} (xs : List α) (j : Nat) : cutL xs (some (j : Int)) none = xs.drop j := by
  unfold cutL
  rw [HT.sIx_nat, HT.sIx_none]
  rcases Nat.lt_or_ge j xs.length with h | h
  · rw [Nat.min_eq_left (by omega)]
    exact List.take_of_length_le (by simp)
  · rw [Nat.min_eq_right (by omega), List.drop_length, List.drop_of_length_le h]
    simp
theorem is_slcT {K : Kit} {a : Ex} {env : Vm.Env} {st : Store} {ds : List PyData} (j : Nat) (h1 : Is K a env st (.p (.tuple ds))) : Is K (.slc a (.cons (.con (.int (j : Int))) .nil) .nil) env st (.p (.tuple (ds.drop j))) := Is.of (x_slc (h1.wp (o_some (x_con ⟨(j : Int), rfl, o_nil (wpO_of (a := .p (.tuple (ds.drop j))) (by
  show (slcD (some (j : Int)) none (.tuple ds)).map Val.p = _
  unfold slcD
  simp only [cutL_from]
  rfl) ⟨rfl, rfl⟩)⟩))))
theorem is_slcL {K : Kit} {a : Ex} {env : Vm.Env} {st : Store} {ds : List PyData} (j : Nat) (h1 : Is K a env st (.p (.list ds))) : Is K (.slc a (.cons (.con (.int (j : Int))) .nil) .nil) env st (.p (.list (ds.drop j))) := Is.of (x_slc (h1.wp (o_some (x_con ⟨(j : Int), rfl, o_nil (wpO_of (a := .p (.list (ds.drop j))) (by
  show (slcD (some (j : Int)) none (.list ds)).map Val.p = _
  unfold slcD
  simp only [cutL_from]
  rfl) ⟨rfl, rfl⟩)⟩))))
theorem is_listT {K : Kit} {a : Ex} {env : Vm.Env} {st : Store} {ds : List PyData} (h1 : Is K a env st (.p (.tuple ds))) : Is K (.bi .list (.cons a .nil)) env st (.p (.list ds)) := Is.of (x_bi (l_cons (h1.wp (l_nil (wpO_of (a := .p (.list ds)) rfl ⟨rfl, rfl⟩)))))
theorem is_tupL {K : Kit} {a : Ex} {env : Vm.Env} {st : Store} {ds : List PyData} (h1 : Is K a env st (.p (.list ds))) : Is K (.bi .tuple (.cons a .nil)) env st (.p (.tuple ds)) := Is.of (x_bi (l_cons (h1.wp (l_nil (wpO_of (a := .p (.tuple ds)) rfl ⟨rfl, rfl⟩)))))
theorem ev1 {K : Kit} {a : Ex} {env : Vm.Env} {st : Store} {v : Val} (h1 : Is K a env st v) : evalL K (.cons a .nil) env st = .ok [v] st := eq_of (l_cons (h1.wp (l_nil ⟨rfl, rfl⟩)))
theorem ev2 {K : Kit} {a b : Ex} {env : Vm.Env} {st : Store} {v w : Val} (h1 : Is K a env st v) (h2 : Is K b env st w) : evalL K (.cons a (.cons b .nil)) env st = .ok [v, w] st := eq_of (l_cons (h1.wp (l_cons (h2.wp (l_nil ⟨rfl, rfl⟩)))))
theorem ev3 {K : Kit} {a b c : Ex} {env : Vm.Env} {st : Store} {v w u : Val} (h1 : Is K a env st v) (h2 : Is K b env st w) (h3 : Is K c env st u) : evalL K (.cons a (.cons b (.cons c .nil))) env st = .ok [v, w, u] st := eq_of (l_cons (h1.wp (l_cons (h2.wp (l_cons (h3.wp (l_nil ⟨rfl, rfl⟩)))))))
theorem is_lst1 {K : Kit} {a : Ex} {env : Vm.Env} {st : Store} {d : PyData} (h1 : Is K a env st (.p d)) : Is K (.lst 0 (.cons a .nil)) env st (.p (.list [d])) := is_lst (ds := [d]) (ev1 h1) (by show 1 ≤ SZ; decide)
theorem is_lst2 {K : Kit} {a b : Ex} {env : Vm.Env} {st : Store} {d e : PyData} (h1 : Is K a env st (.p d)) (h2 : Is K b env st (.p e)) : Is K (.lst 0 (.cons a (.cons b .nil))) env st (.p (.list [d, e])) := is_lst (ds := [d, e]) (ev2 h1 h2) (by show 2 ≤ SZ; decide)
theorem is_inT {K : Kit} {a b : Ex} {env : Vm.Env} {st : Store} {d : PyData} {ds : List PyData} (h1 : Is K a env st (.p d)) (h2 : Is K b env st (.p (.tuple ds))) (f1 : flatD d = true) (f2 : ds.all flatD = true) : Is K (.cmp .isin a b) env st (.p (.bool (ds.any fun z => PyData.eqv z d))) := Is.of (x_cmp (h1.wp (h2.wp (wpO_of (a := ds.any fun z => PyData.eqv z d) (by
  show inD d (.tuple ds) = _
  unfold inD
  simp only
  rw [if_pos ⟨f1, f2⟩]) ⟨rfl, rfl⟩))))
theorem is_ninT {K : Kit} {a b : Ex} {env : Vm.Env} {st : Store} {d : PyData} {ds : List PyData} (h1 : Is K a env st (.p d)) (h2 : Is K b env st (.p (.tuple ds))) (f1 : flatD d = true) (f2 : ds.all flatD = true) : Is K (.cmp .notin a b) env st (.p (.bool (!(ds.any fun z => PyData.eqv z d)))) := Is.of (x_cmp (h1.wp (h2.wp (wpO_of (a := !(ds.any fun z => PyData.eqv z d)) (by
  show (inD d (.tuple ds)).map (!·) = _
  unfold inD
  simp only
  rw [if_pos ⟨f1, f2⟩]
  rfl) ⟨rfl, rfl⟩))))
theorem x_extend {K : Kit} {es : Ex} {env : Vm.Env} {s : Store} {i k : Nat} {ds xs : List PyData} {Q : Val → Store → Prop} {E : EK} (he : env[i]? = some (some (.r k))) (hk : s[k]? = some (.pl ds)) (h : Is K es env s (.p (.list xs))) (hl : ds.length + xs.length ≤ SZ) (q : Q (.p .none) (s.set k (.pl (ds ++ xs)))) : wpR (evalX K (.mth .extend (.var i) (.cons es .nil)) env s) Q E := by
  refine x_mth (x_var he ⟨.list, ?_, rfl, l_cons (h.wp (l_nil ?_))⟩)
  · unfold mkind
    rw [see_rd hk rfl]
  · refine wp_eq (mtV_r hk (c' := .pl (ds ++ xs)) (v := .p .none) ?_) q
    show (if ds.length + xs.length ≤ SZ then some (Val.p .none, Cell.pl (ds ++ xs)) else none) = _
    rw [if_pos hl]
theorem eqv_strs (a b : Str) : PyData.eqv (.str a) (.str b) = (a == b) := by simp [PyData.eqv]
end Vm
end

section
/-! V42: tools for the plain part. -/
namespace Vm
open PySem
theorem run_eq {P : Pg} {n i : Nat} {vs : List Val} {st : Store} (d : Fn) (hd : P.fns i = some d) (hl : vs.length = d.np) : runF P (n + 1) i vs st = outB d.keep st.length (execS (kitOf P n) P.fields d.body (vs.map some ++ List.replicate (d.ns - d.np) none) st) := by
  rw [runF_succ, hd]
  simp only
  unfold runB
  rw [if_pos hl]
theorem kit_fn (P : Pg) (n : Nat) : (kitOf P n).fn = runF P n := rfl
theorem kit_con (P : Pg) (n : Nat) : (kitOf P n).con = P.con := rfl
theorem kit_fl (P : Pg) (n : Nat) : (kitOf P n).fl = P.fields := rfl
theorem kit_isx (P : Pg) (n : Nat) : (kitOf P n).isx = P.isx := rfl
theorem kit_sub (P : Pg) (n : Nat) : (kitOf P n).sub = P.sub := rfl
theorem kit_fnw (P : Pg) (n : Nat) : (kitOf P n).fnw = runL P n := rfl
theorem wfs_iff {st : Store} : WFs st ↔ ∀ c ∈ st, cellBelow st.length c = true := by
  unfold WFs
  rw [List.all_eq_true]
theorem wfs_app {st : Store} (w : WFs st) {c : Cell} (h : cellBelow 0 c = true) : (∀ x ∈ st, cellBelow st.length x = true) := wfs_iff.mp w
/-- what can be shown, and how long that is -/
structure Rq (N B : Nat) (d : PyData) : Prop where
  sh : d.showable = true
  de : d.depth ≤ N
  le : d.shown.length ≤ B
theorem Rq.up {N B N' B' : Nat} {d : PyData} (h : Rq N B d) (h1 : N ≤ N') (h2 : B ≤ B') : Rq N' B' d := ⟨h.sh, Nat.le_trans h.de h1, Nat.le_trans h.le h2⟩
/-- a text of at most m signs -/
def okT (m : Nat) (s : Str) : Prop := s.length ≤ m ∧ ∀ c ∈ s.cps.toList, c < 1114112
theorem rq_str {m : Nat} {s : Str} (h : okT m s) : Rq 0 (10 * m + 2) (.str s) := by
  refine ⟨by rw [PyData.showable], by rw [PyData.depth]; omega, ?_⟩
  rw [PyData.shown]
  have := StrLaws.reprText_len s fun c hc => by
    have := h.2 c hc
    have : (1114112 : Nat) < 16 ^ 8 := by decide
    omega
  have := h.1
  omega
theorem rq_bool (b : Bool) : Rq 0 5 (.bool b) := by
  cases b
  · exact ⟨by decide +kernel, by decide +kernel, by decide +kernel⟩
  · exact ⟨by decide +kernel, by decide +kernel, by decide +kernel⟩
theorem rq_none : Rq 0 4 .none := ⟨by decide +kernel, by decide +kernel, by decide +kernel⟩
theorem strJoin_sum (b : Str) : ∀ ps : List Str, (Str.join b ps).length ≤ (ps.map fun p => p.length + b.length).sum
  | [] => by show (Str.empty).length ≤ 0; decide
  | [p] => by show p.length ≤ _; simp
  | p :: q :: r => by
    have ih := strJoin_sum b (q :: r)
    have e : Str.join b (p :: q :: r) = p ++ b ++ Str.join b (q :: r) := rfl
    have len : (p ++ b ++ Str.join b (q :: r)).length = p.length + b.length + (Str.join b (q :: r)).length := by
      show (p.cps ++ b.cps ++ (Str.join b (q :: r)).cps).size = _
      simp [Str.length, Nat.add_assoc]
    rw [e, len, List.map_cons, List.sum_cons]
    omega
theorem all_shown : ∀ xs : List PyData, PyData.shownAll xs = xs.map PyData.shown
  | [] => by rw [PyData.shownAll]; rfl
  | x :: xs => by rw [PyData.shownAll, all_shown xs]; rfl
theorem all_show : ∀ {xs : List PyData}, (∀ d ∈ xs, d.showable = true) → PyData.showableAll xs = true
  | [], _ => by rw [PyData.showableAll]
  | x :: xs, h => by rw [PyData.showableAll, h x (by simp), all_show fun d hd => h d (by simp [hd])]; rfl
theorem all_depth {N : Nat} : ∀ {xs : List PyData}, (∀ d ∈ xs, d.depth ≤ N) → PyData.depthAll xs ≤ N
  | [], _ => by rw [PyData.depthAll]; omega
  | x :: xs, h => by
    rw [PyData.depthAll]
    have h1 := h x (by simp)
    have h2 := all_depth (xs := xs) fun d hd => h d (by simp [hd])
    omega
theorem sum_le_mul {α : Type} {B : Nat} {f : α → Nat} : ∀ {ds : List α}, (∀ d ∈ ds, f d ≤ B) → (ds.map f).sum ≤ ds.length * B
  | [], _ => by simp
  | d :: ds, h => by
    have h1 := h d (by simp)
    have h2 := sum_le_mul (ds := ds) fun e he => h e (by simp [he])
    rw [List.map_cons, List.sum_cons, List.length_cons, Nat.add_mul]
    omega
theorem lit_lens : (("[" : Str)).length = 1 ∧ (("]" : Str)).length = 1 ∧ (("(" : Str)).length = 1 ∧ ((", " : Str)).length = 2 ∧ ((",)" : Str)).length = 2 ∧ ((")" : Str)).length = 1 := by decide +kernel
theorem str_len_app (a b : Str) : (a ++ b).length = a.length + b.length := by
  show (a.cps ++ b.cps).size = _
  simp [Str.length]
theorem tupText_len (ts : List Str) : (tupleText ts).length ≤ (ts.map fun p => p.length + 2).sum + 3 := by
  obtain ⟨_, _, l1, l2, l3, l4⟩ := lit_lens
  have j := strJoin_sum ", " ts
  rw [l2] at j
  unfold tupleText
  rw [str_len_app, str_len_app, l1]
  split
  · rw [l3]; omega
  · rw [l4]; omega
theorem textFrom_le : ∀ (ts : List Str) (k : Nat) (acc : Str), (textFrom k acc ts).length ≤ acc.length + (ts.map fun p => p.length + 2).sum
  | [], k, acc => by rw [textFrom]; simp
  | t :: ts, k, acc => by
    obtain ⟨_, _, _, l3, _, _⟩ := lit_lens
    rw [textFrom, List.map_cons, List.sum_cons]
    refine Nat.le_trans (textFrom_le ts _ _) ?_
    have l0 : (("" : Str)).length = 0 := by decide +kernel
    rw [str_len_app, str_len_app]
    split
    · rw [l3]; omega
    · rw [l0]; omega
theorem listText_len (ts : List Str) : (listText ts).length ≤ (ts.map fun p => p.length + 2).sum + 3 := by
  obtain ⟨l1, l2, _, l3, _, _⟩ := lit_lens
  have j := textFrom_le ts 0 "["
  unfold listText
  rw [str_len_app, l2]
  rw [l1] at j
  omega
theorem Rq.tup {N B : Nat} {ds : List PyData} (h : ∀ d ∈ ds, Rq N B d) : Rq (N + 1) (ds.length * (B + 2) + 3) (.tuple ds) := by
  refine ⟨by rw [PyData.showable]; exact all_show fun d hd => (h d hd).sh, by rw [PyData.depth]; have := all_depth fun d hd => (h d hd).de; omega, ?_⟩
  rw [PyData.shown, all_shown]
  have := tupText_len (ds.map PyData.shown)
  rw [List.map_map] at this
  have := sum_le_mul (f := fun d : PyData => d.shown.length + 2) (B := B + 2) (ds := ds) fun d hd => Nat.add_le_add_right (h d hd).le 2
  exact Nat.le_trans (tupText_len _) (by rw [List.map_map]; exact Nat.add_le_add_right this 3)
theorem Rq.lst {N B : Nat} {ds : List PyData} (h : ∀ d ∈ ds, Rq N B d) : Rq (N + 1) (ds.length * (B + 2) + 3) (.list ds) := by
  refine ⟨by rw [PyData.showable]; exact all_show fun d hd => (h d hd).sh, by rw [PyData.depth]; have := all_depth fun d hd => (h d hd).de; omega, ?_⟩
  rw [PyData.shown, all_shown]
  have := sum_le_mul (f := fun d : PyData => d.shown.length + 2) (B := B + 2) (ds := ds) fun d hd => Nat.add_le_add_right (h d hd).le 2
  exact Nat.le_trans (listText_len _) (by rw [List.map_map]; exact Nat.add_le_add_right this 3)
/-- repr of what can be shown -/
theorem bi_repr {N B : Nat} {d : PyData} (h : Rq N B d) (hN : N ≤ 64) (hB : B ≤ 16777216) : biD .repr d = some (.str d.shown) := by
  have e : biD .repr d = if d.shown.length ≤ SZ ∧ d.showable = true ∧ d.depth ≤ 64 then some (.str d.shown) else none := by cases d <;> rfl
  rw [e, if_pos ⟨Nat.le_trans h.le hB, h.sh, Nat.le_trans h.de hN⟩]
theorem rng_ev {K : Kit} {a b : Ex} {env : Vm.Env} {st s1 s2 : Store} {i j : Int} (h1 : evalX K a env st = .ok (.p (.int i)) s1) (h2 : evalX K b env s1 = .ok (.p (.int j)) s2) (hi : -4096 ≤ i ∧ i ≤ 100000) (hj : -4096 ≤ j ∧ j ≤ 100000) : evalI K (.rng a b) env st = .ok (rangeV i j) s2 := by
  have p : (100000 : Int) < 2 ^ 62 := by decide
  have p2 : -(2 ^ 62 : Int) ≤ -4096 := by decide
  rw [evalI, h1]
  show (evalX K b env s1).bind _ = _
  rw [h2]
  show (if -(2 ^ 62) ≤ i ∧ i < 2 ^ 62 ∧ -(2 ^ 62) ≤ j ∧ j < 2 ^ 62 then R.ok (rangeV i j) s2 else .no) = _
  rw [if_pos ⟨Int.le_trans p2 hi.1, Int.lt_of_le_of_lt hi.2 p, Int.le_trans p2 hj.1, Int.lt_of_le_of_lt hj.2 p⟩]
end Vm
end

section
namespace K13
open PySem Vm
def i__law_begin : Nat := 0
def i__law_take : Nat := 1
def i__law_pick : Nat := 2
def i__law_marks : Nat := 3
def i__law_first_ones : Nat := 4
def i__law_later_ones : Nat := 5
def i__law_held : Nat := 6
def i__law_right : Nat := 7
def i__law_caught : Nat := 8
def i_law : Nat := 9
/-- _law_begin: _law_script _law_cell -/
def b__law_begin : Sm := (.ret (.lst 2 (.cons (.or (.lc 1 [1] (.cons (.slc (.var 0) .nil (.cons (.con (.int 63)) .nil)) .nil) .nil (.bi .abs (.cons (.var 1) .nil))) (.lst 1 (.cons (.con (.int 7)) .nil))) (.cons (.con (.int 0)) (.cons (.con (.int 1)) (.cons (.con (.int 0)) .nil))))))
/-- _law_take: _law_draw _law_size _law_cells _law_at _law_cell -/
def b__law_take : Sm := (.seq (.asg (.n 2) (.idx (.var 0) (.con (.int 0)))) (.seq (.asg (.n 3) (.bin .mod (.idx (.var 0) (.con (.int 1))) (.bi .len (.cons (.var 2) .nil)))) (.seq (.asg (.n 4) (.idx (.var 2) (.var 3))) (.seq (.ife (.cons (.cmp .ge (.var 4) (.bin .pow (.con (.int 10)) (.con (.int 18)))) .nil) (.seq (.asg (.sub (.var 2) (.var 3)) (.bin .fdiv (.var 4) (.var 1))) (.ret (.bin .mod (.var 4) (.var 1)))) .skip) (.seq (.asg (.sub (.var 0) (.con (.int 1))) (.bin .add (.idx (.var 0) (.con (.int 1))) (.con (.int 1)))) (.seq (.asg (.sub (.var 0) (.con (.int 3))) (.bin .add (.idx (.var 0) (.con (.int 3))) (.con (.int 1)))) (.seq (.asg (.sub (.var 0) (.con (.int 2))) (.bin .mod (.bin .add (.bin .add (.bin .add (.bin .mul (.idx (.var 0) (.con (.int 2))) (.con (.int 48271))) (.var 4)) (.bin .mul (.con (.int 7919)) (.idx (.var 0) (.con (.int 3))))) (.con (.int 12345))) (.con (.int 2147483647)))) (.ret (.bin .mod (.bin .fdiv (.bin .mod (.bin .mul (.idx (.var 0) (.con (.int 2))) (.idx (.var 0) (.con (.int 2)))) (.con (.int 2147483629))) (.con (.int 16))) (.var 1))))))))))
/-- _law_pick: _law_draw _law_some -/
def b__law_pick : Sm := (.ret (.idx (.var 1) (.call i__law_take (.cons (.var 0) (.cons (.bi .len (.cons (.var 1) .nil)) .nil)))))
/-- _law_marks: _law_error _law_found -/
def b__law_marks : Sm := (.seq (.asg (.n 1) (.lst 0 (.cons (.isi (.var 0) [.own 1]) (.cons (.isi (.var 0) [.own 2]) (.cons (.isi (.var 0) [.own 3]) .nil))))) (.seq (.asg (.n 1) (.bin .add (.var 1) (.lst 0 (.cons (.isi (.var 0) [.own 4]) (.cons (.isi (.var 0) [.own 5]) (.cons (.isi (.var 0) [.own 6]) .nil)))))) (.seq (.asg (.n 1) (.bin .add (.var 1) (.lst 0 (.cons (.isi (.var 0) [.own 7]) (.cons (.isi (.var 0) [.own 8]) .nil))))) (.seq (.asg (.n 1) (.bin .add (.var 1) (.lst 0 (.cons (.isi (.var 0) [.own 9]) (.cons (.isi (.var 0) [.own 10]) .nil))))) (.seq (.asg (.n 1) (.bin .add (.var 1) (.lst 0 (.cons (.isi (.var 0) [.own 11]) (.cons (.isi (.var 0) [.own 12]) (.cons (.isi (.var 0) [.own 13]) .nil)))))) (.seq (.asg (.n 1) (.bin .add (.var 1) (.lst 0 (.cons (.isi (.var 0) [.own 14]) (.cons (.isi (.var 0) [.own 15]) (.cons (.isi (.var 0) [.own 16]) .nil)))))) (.ret (.bin .add (.var 1) (.lst 0 (.cons (.isi (.var 0) [.own 17]) (.cons (.isi (.var 0) [.own 18]) .nil)))))))))))
/-- _law_first_ones: _law_what _law_found -/
def b__law_first_ones : Sm := (.seq (.asg (.n 1) (.lst 0 (.cons (.tup (.cons (.mkx 1 (.cons (.var 0) .nil)) (.cons (.mkk 1 ["name"] [0] (.cons (.var 0) .nil)) .nil))) (.cons (.tup (.cons (.mkx 2 (.cons (.var 0) .nil)) (.cons (.mkk 2 ["entry"] [0] (.cons (.var 0) .nil)) .nil))) .nil)))) (.seq (.asg (.n 1) (.bin .add (.var 1) (.lst 0 (.cons (.tup (.cons (.mkx 3 (.cons (.var 0) .nil)) (.cons (.mkk 3 ["path"] [0] (.cons (.var 0) .nil)) .nil))) (.cons (.tup (.cons (.mkx 4 (.cons (.var 0) .nil)) (.cons (.mkk 4 ["time"] [0] (.cons (.var 0) .nil)) .nil))) .nil))))) (.seq (.asg (.n 1) (.bin .add (.var 1) (.lst 0 (.cons (.tup (.cons (.mkx 5 (.cons (.var 0) .nil)) (.cons (.mkk 5 ["line"] [0] (.cons (.var 0) .nil)) .nil))) (.cons (.tup (.cons (.mkx 6 (.cons (.var 0) .nil)) (.cons (.mkk 6 ["index"] [0] (.cons (.var 0) .nil)) .nil))) .nil))))) (.seq (.asg (.n 1) (.bin .add (.var 1) (.lst 0 (.cons (.tup (.cons (.mkx 7 (.cons (.var 0) .nil)) (.cons (.mkk 7 ["name"] [0] (.cons (.var 0) .nil)) .nil))) (.cons (.tup (.cons (.mkx 8 (.cons (.var 0) .nil)) (.cons (.mkk 8 ["name"] [0] (.cons (.var 0) .nil)) .nil))) .nil))))) (.seq (.asg (.n 1) (.bin .add (.var 1) (.lst 0 (.cons (.tup (.cons (.mkx 9 (.cons (.var 0) .nil)) (.cons (.mkk 9 ["index"] [0] (.cons (.var 0) .nil)) .nil))) (.cons (.tup (.cons (.mkx 10 (.cons (.var 0) .nil)) (.cons (.mkk 10 ["reason"] [0] (.cons (.var 0) .nil)) .nil))) .nil))))) (.ret (.bin .add (.var 1) (.lst 0 (.cons (.tup (.cons (.mkx 11 (.cons (.var 0) .nil)) (.cons (.mkk 11 ["index"] [0] (.cons (.var 0) .nil)) .nil))) (.cons (.tup (.cons (.mkx 12 (.cons (.var 0) .nil)) (.cons (.mkk 12 ["line"] [0] (.cons (.var 0) .nil)) .nil))) .nil))))))))))
/-- _law_later_ones: _law_what _law_more _law_found -/
def b__law_later_ones : Sm := (.seq (.asg (.n 2) (.lst 2 (.cons (.tup (.cons (.mkx 13 (.cons (.var 0) .nil)) (.cons (.mkk 13 ["name"] [0] (.cons (.var 0) .nil)) .nil))) (.cons (.tup (.cons (.mkx 14 (.cons (.var 0) .nil)) (.cons (.mkk 14 ["name"] [0] (.cons (.var 0) .nil)) .nil))) .nil)))) (.seq (.asg (.n 2) (.cat 2 (.var 2) (.lst 0 (.cons (.tup (.cons (.mkx 15 (.cons (.var 0) (.cons (.var 1) .nil))) (.cons (.mkk 15 ["word", "name"] [1, 0] (.cons (.var 1) (.cons (.var 0) .nil))) .nil))) (.cons (.tup (.cons (.mkx 16 (.cons (.var 0) .nil)) (.cons (.mkk 16 ["name"] [0] (.cons (.var 0) .nil)) .nil))) .nil))))) (.seq (.ex (.mth .append (.var 2) (.cons (.tup (.cons (.mkx 17 (.cons (.var 0) (.cons (.var 1) .nil))) (.cons (.mkk 17 ["line", "name"] [1, 0] (.cons (.var 1) (.cons (.var 0) .nil))) .nil))) .nil))) (.ret (.cat 0 (.var 2) (.lst 0 (.cons (.tup (.cons (.mkx 18 (.cons (.var 0) .nil)) (.cons (.mkk 18 ["name"] [0] (.cons (.var 0) .nil)) .nil))) .nil)))))))
/-- _law_held: _law_error _law_at -/
def b__law_held : Sm := (.seq (.ife (.cons (.cmp .isin (.var 1) (.tup (.cons (.con (.int 0)) (.cons (.con (.int 6)) (.cons (.con (.int 7)) (.cons (.con (.int 12)) (.cons (.con (.int 13)) (.cons (.con (.int 15)) (.cons (.con (.int 17)) .nil))))))))) .nil) (.ret (.lst 0 (.cons (.fld (.var 0) "name") .nil))) .skip) (.seq (.ife (.cons (.cmp .eq (.var 1) (.con (.int 1))) .nil) (.ret (.lst 0 (.cons (.fld (.var 0) "entry") .nil))) .skip) (.seq (.ife (.cons (.cmp .eq (.var 1) (.con (.int 2))) .nil) (.ret (.lst 0 (.cons (.fld (.var 0) "path") .nil))) .skip) (.seq (.ife (.cons (.cmp .eq (.var 1) (.con (.int 3))) .nil) (.ret (.lst 0 (.cons (.fld (.var 0) "time") .nil))) .skip) (.seq (.ife (.cons (.cmp .isin (.var 1) (.tup (.cons (.con (.int 4)) (.cons (.con (.int 11)) .nil)))) .nil) (.ret (.lst 0 (.cons (.fld (.var 0) "line") .nil))) .skip) (.seq (.ife (.cons (.cmp .isin (.var 1) (.tup (.cons (.con (.int 5)) (.cons (.con (.int 8)) (.cons (.con (.int 10)) .nil))))) .nil) (.ret (.lst 0 (.cons (.fld (.var 0) "index") .nil))) .skip) (.seq (.ife (.cons (.cmp .eq (.var 1) (.con (.int 9))) .nil) (.ret (.lst 0 (.cons (.fld (.var 0) "reason") .nil))) .skip) (.ret (.ite (.cmp .eq (.var 1) (.con (.int 14))) (.lst 0 (.cons (.fld (.var 0) "name") (.cons (.fld (.var 0) "word") .nil))) (.lst 0 (.cons (.fld (.var 0) "name") (.cons (.fld (.var 0) "line") .nil))))))))))))
/-- _law_right: _law_error _law_at _law_due _law_hope _law_spot -/
def b__law_right : Sm := (.seq (.asg (.n 3) (.lc 0 [4] (.rng (.con (.int 0)) (.con (.int 18))) .nil (.or (.cmp .eq (.var 4) (.var 1)) (.and (.cmp .gt (.var 1) (.con (.int 12))) (.cmp .eq (.var 4) (.con (.int 12))))))) (.seq (.ife (.cons (.or (.cmp .ne (.call i__law_marks (.cons (.var 0) .nil)) (.var 3)) (.or (.not (.isi (.var 0) [.own 0])) (.not (.isi (.var 0) [.verr])))) .nil) (.ret (.con (.bool false))) .skip) (.ret (.cmp .eq (.bi .repr (.cons (.call i__law_held (.cons (.var 0) (.cons (.var 1) .nil))) .nil)) (.bi .repr (.cons (.var 2) .nil))))))
/-- _law_caught: _law_what _law_found -/
def b__law_caught : Sm := (.seq (.asg (.n 1) (.con (.int 0))) (.seq (.tr (.rse 17 (.cons (.var 0) (.cons (.con (.int 1)) .nil))) 17 none (.asg (.n 1) (.bin .add (.var 1) (.con (.int 1))))) (.seq (.tr (.rse 16 (.cons (.var 0) .nil)) 13 none (.asg (.n 1) (.bin .add (.var 1) (.con (.int 1))))) (.seq (.tr (.rse 7 (.cons (.var 0) .nil)) 0 none (.asg (.n 1) (.bin .add (.var 1) (.con (.int 1))))) (.ret (.var 1))))))
/-- law: _law_script _law_draw _law_turn _law_some _law_what _law_more _law_rows _law_at _law_pair _law_due -/
def b_law : Sm := (.seq (.asg (.n 1) (.call i__law_begin (.cons (.var 0) .nil))) (.seq (.for_ [2] (.rng (.con (.int 0)) (.bin .add (.con (.int 3)) (.bi .min2 (.cons (.bi .len (.cons (.var 0) .nil)) (.cons (.con (.int 10)) .nil))))) (.seq (.asg (.n 3) (.lst 0 (.cons (.con (.str "a")) (.cons (.con (.str "")) (.cons (.con .none) (.cons (.con (.int 0)) (.cons (.call i__law_take (.cons (.var 1) (.cons (.con (.int 100)) .nil))) (.cons (.con (.bool true)) (.cons (.tup (.cons (.con (.int 0)) (.cons (.con (.int 3)) .nil))) (.cons (.lst 0 (.cons (.con (.int 1)) .nil)) (.cons (.dic 0 .nil) (.cons (.tup (.cons (.con (.str "a")) (.cons (.con .none) .nil))) (.cons (.neg (.con (.int 1))) (.cons (.con (.str "a.b")) .nil)))))))))))))) (.seq (.asg (.t [4, 5]) (.tup (.cons (.call i__law_pick (.cons (.var 1) (.cons (.var 3) .nil))) (.cons (.call i__law_pick (.cons (.var 1) (.cons (.var 3) .nil))) .nil)))) (.seq (.asg (.n 6) (.cat 0 (.call i__law_first_ones (.cons (.var 4) .nil)) (.call i__law_later_ones (.cons (.var 4) (.cons (.var 5) .nil))))) (.seq (.for_ [7, 8] (.enu (.var 6)) (.seq (.asg (.n 9) (.ite (.cmp .isin (.var 7) (.tup (.cons (.con (.int 14)) (.cons (.con (.int 16)) .nil)))) (.lst 0 (.cons (.var 4) (.cons (.var 5) .nil))) (.lst 0 (.cons (.var 4) .nil)))) (.ife (.cons (.or (.not (.call i__law_right (.cons (.idx (.var 8) (.con (.int 0))) (.cons (.var 7) (.cons (.var 9) .nil))))) (.not (.call i__law_right (.cons (.idx (.var 8) (.con (.int 1))) (.cons (.var 7) (.cons (.var 9) .nil)))))) .nil) (.ret (.con (.bool false))) .skip))) (.ife (.cons (.cmp .ne (.call i__law_caught (.cons (.var 4) .nil)) (.con (.int 3))) .nil) (.ret (.con (.bool false))) .skip)))))) (.ret (.con (.bool true)))))
def f__law_begin : Fn := ⟨1, 2, true, b__law_begin⟩
def f__law_take : Fn := ⟨2, 5, false, b__law_take⟩
def f__law_pick : Fn := ⟨2, 2, false, b__law_pick⟩
def f__law_marks : Fn := ⟨1, 2, false, b__law_marks⟩
def f__law_first_ones : Fn := ⟨1, 2, false, b__law_first_ones⟩
def f__law_later_ones : Fn := ⟨2, 3, false, b__law_later_ones⟩
def f__law_held : Fn := ⟨2, 2, false, b__law_held⟩
def f__law_right : Fn := ⟨3, 5, false, b__law_right⟩
def f__law_caught : Fn := ⟨1, 2, false, b__law_caught⟩
def f_law : Fn := ⟨1, 10, false, b_law⟩
def lfnsT : List LFn := []
def fnsT : List Fn := [f__law_begin, f__law_take, f__law_pick, f__law_marks, f__law_first_ones, f__law_later_ones, f__law_held, f__law_right, f__law_caught, f_law]
def consT : List PyData := []
def subT : List (List Nat) := [[0], [1, 0], [2, 0], [3, 0], [4, 0], [5, 0], [6, 0], [7, 0], [8, 0], [9, 0], [10, 0], [11, 0], [12, 0], [13, 0], [14, 13, 0], [15, 13, 0], [16, 13, 0], [17, 13, 0], [18, 13, 0]]
def fieldsT : List (List Str) := [[], ["name"], ["entry"], ["path"], ["time"], ["line"], ["index"], ["name"], ["name"], ["index"], ["reason"], ["index"], ["line"], ["name"], ["name"], ["name", "word"], ["name"], ["name", "line"], ["name"]]
def nX : Nat := 19
def pg : Pg := ⟨fun i => fnsT[i]?, fun i => consT[i]?, fun a b => (subT.getD a (subT.getD 0 [])).contains b, fun c => fieldsT.getD c [], 100000, fun c t => if c < nX then (match t with | .own j => if j < nX then some ((subT.getD c (subT.getD 0 [])).contains j) else none | .verr => some true | _ => some false) else none, fun _ _ => none, fun i => lfnsT[i]?⟩
def iLaw : Nat := i_law
end K13
end

section
namespace K13
open PySem PySem.Spec PyProof.Rows L2 Vm
def top (i : Nat) : Stmt := PySem.Challenge.pw_modcore_k13_errors.main.body.getD i (.Pass ⟨0, 0, 0, 0⟩)
def ft0 : FT := ⟨"_law_begin", top 21, ["_law_script", "_law_cell"], ["_law_script"]⟩
def ft1 : FT := ⟨"_law_take", top 22, ["_law_draw", "_law_size", "_law_cells", "_law_at", "_law_cell"], ["_law_draw", "_law_size"]⟩
def ft2 : FT := ⟨"_law_pick", top 23, ["_law_draw", "_law_some"], ["_law_draw", "_law_some"]⟩
def ft3 : FT := ⟨"_law_marks", top 24, ["_law_error", "_law_found"], ["_law_error"]⟩
def ft4 : FT := ⟨"_law_first_ones", top 25, ["_law_what", "_law_found"], ["_law_what"]⟩
def ft5 : FT := ⟨"_law_later_ones", top 26, ["_law_what", "_law_more", "_law_found"], ["_law_what", "_law_more"]⟩
def ft6 : FT := ⟨"_law_held", top 27, ["_law_error", "_law_at"], ["_law_error", "_law_at"]⟩
def ft7 : FT := ⟨"_law_right", top 28, ["_law_error", "_law_at", "_law_due", "_law_hope", "_law_spot"], ["_law_error", "_law_at", "_law_due"]⟩
def ft8 : FT := ⟨"_law_caught", top 29, ["_law_what", "_law_found"], ["_law_what"]⟩
def ft9 : FT := ⟨"law", top 30, ["_law_script", "_law_draw", "_law_turn", "_law_some", "_law_what", "_law_more", "_law_rows", "_law_at", "_law_pair", "_law_due"], ["_law_script"]⟩
def tab : List FT := [ft0, ft1, ft2, ft3, ft4, ft5, ft6, ft7, ft8, ft9]
def mcf0 : List (Str × Nat) := [("_law_begin", 0), ("_law_take", 1), ("_law_pick", 2), ("_law_marks", 3), ("_law_first_ones", 4), ("_law_later_ones", 5), ("_law_held", 6), ("_law_right", 7), ("_law_caught", 8), ("law", 9)]
def mc : MC := ⟨[], (mcf0), [], [], [("ModuleError", 0), ("InvalidName", 1), ("InvalidEntry", 2), ("InvalidPath", 3), ("InvalidTime", 4), ("InvalidBody", 5), ("InvalidFinder", 6), ("InvalidWorld", 7), ("InvalidLoaded", 8), ("InvalidMoves", 9), ("Impossible", 10), ("InvalidJournal", 11), ("InvalidText", 12), ("LoadError", 13), ("ModuleMissing", 14), ("WordMissing", 15), ("Stopped", 16), ("Uncompiled", 17), ("BeyondTop", 18)], ["abs", "len", "isinstance", "repr", "ValueError", "range", "min", "enumerate"], [], [("InvalidJournal", 11), ("InvalidText", 12), ("InvalidMoves", 9), ("Impossible", 10), ("InvalidWorld", 7), ("InvalidLoaded", 8), ("InvalidBody", 5), ("InvalidFinder", 6), ("InvalidPath", 3), ("InvalidTime", 4), ("InvalidName", 1), ("InvalidEntry", 2), ("BeyondTop", 18), ("Uncompiled", 17), ("WordMissing", 15), ("Stopped", 16), ("LoadError", 13), ("ModuleMissing", 14)], [], [(11, ["index"], [0]), (12, ["line"], [0]), (9, ["index"], [0]), (10, ["reason"], [0]), (7, ["name"], [0]), (8, ["name"], [0]), (5, ["line"], [0]), (6, ["index"], [0]), (3, ["path"], [0]), (4, ["time"], [0]), (1, ["name"], [0]), (2, ["entry"], [0]), (18, ["name"], [0]), (17, ["line", "name"], [1, 0]), (15, ["word", "name"], [1, 0]), (16, ["name"], [0]), (13, ["name"], [0]), (14, ["name"], [0])]⟩
def xt0 : XT := ⟨"ModuleError", false, .Pass ⟨0, 0, 0, 0⟩, [], "", 0, false, []⟩
def xt1 : XT := ⟨"InvalidName", true, clsInit (top 2), ["self", "name"], "ModuleError", 0, false, ["name"]⟩
def xt2 : XT := ⟨"InvalidEntry", true, clsInit (top 3), ["self", "entry"], "ModuleError", 0, false, ["entry"]⟩
def xt3 : XT := ⟨"InvalidPath", true, clsInit (top 4), ["self", "path"], "ModuleError", 0, false, ["path"]⟩
def xt4 : XT := ⟨"InvalidTime", true, clsInit (top 5), ["self", "time"], "ModuleError", 0, false, ["time"]⟩
def xt5 : XT := ⟨"InvalidBody", true, clsInit (top 6), ["self", "line"], "ModuleError", 0, false, ["line"]⟩
def xt6 : XT := ⟨"InvalidFinder", true, clsInit (top 7), ["self", "index"], "ModuleError", 0, false, ["index"]⟩
def xt7 : XT := ⟨"InvalidWorld", true, clsInit (top 8), ["self", "name"], "ModuleError", 0, false, ["name"]⟩
def xt8 : XT := ⟨"InvalidLoaded", true, clsInit (top 9), ["self", "name"], "ModuleError", 0, false, ["name"]⟩
def xt9 : XT := ⟨"InvalidMoves", true, clsInit (top 10), ["self", "index"], "ModuleError", 0, false, ["index"]⟩
def xt10 : XT := ⟨"Impossible", true, clsInit (top 11), ["self", "reason"], "ModuleError", 0, false, ["reason"]⟩
def xt11 : XT := ⟨"InvalidJournal", true, clsInit (top 12), ["self", "index"], "ModuleError", 0, false, ["index"]⟩
def xt12 : XT := ⟨"InvalidText", true, clsInit (top 13), ["self", "line"], "ModuleError", 0, false, ["line"]⟩
def xt13 : XT := ⟨"LoadError", true, clsInit (top 14), ["self", "name"], "ModuleError", 0, false, ["name"]⟩
def xt14 : XT := ⟨"ModuleMissing", true, clsInit (top 15), ["self", "name"], "LoadError", 13, true, ["name"]⟩
def xt15 : XT := ⟨"WordMissing", true, clsInit (top 16), ["self", "name", "word"], "LoadError", 13, true, ["name", "word"]⟩
def xt16 : XT := ⟨"Stopped", true, clsInit (top 17), ["self", "name"], "LoadError", 13, true, ["name"]⟩
def xt17 : XT := ⟨"Uncompiled", true, clsInit (top 18), ["self", "name", "line"], "LoadError", 13, true, ["name", "line"]⟩
def xt18 : XT := ⟨"BeyondTop", true, clsInit (top 19), ["self", "name"], "LoadError", 13, true, ["name"]⟩
def xsT : List XT := [xt0, xt1, xt2, xt3, xt4, xt5, xt6, xt7, xt8, xt9, xt10, xt11, xt12, xt13, xt14, xt15, xt16, xt17, xt18]
def ltab : List LT := []
def mks : List Str := []
theorem kwl : kwL ltab := by
  intro i t h; cases i <;> cases h
theorem kwx0 : ∀ (i : Nat) (t : XT), xsT[i]? = some t → t.has = true → ∀ (kV doc pm : Value) (an : Option Addr) (cdv ct : Value) (us : List Value), us.length = t.N.length → bindArgs (PySem.W.fnOf "__init__" (t.nm ++ (".__init__" : Str)) (defArgs t.st) (defBody t.st) (defScope t.st) .none kV doc pm an cdv ct) ⟨us, []⟩ = pure (t.N.zip us) := by
  intro i t h hh kV doc pm an cdv ct us hl
  match i, h with
  | 0, h => cases h; cases hh
  | 1, h => cases h; match us, hl with | [_, _], _ => rfl
  | 2, h => cases h; match us, hl with | [_, _], _ => rfl
  | 3, h => cases h; match us, hl with | [_, _], _ => rfl
  | 4, h => cases h; match us, hl with | [_, _], _ => rfl
  | 5, h => cases h; match us, hl with | [_, _], _ => rfl
  | 6, h => cases h; match us, hl with | [_, _], _ => rfl
  | 7, h => cases h; match us, hl with | [_, _], _ => rfl
  | 8, h => cases h; match us, hl with | [_, _], _ => rfl
  | 9, h => cases h; match us, hl with | [_, _], _ => rfl
  | 10, h => cases h; match us, hl with | [_, _], _ => rfl
  | 11, h => cases h; match us, hl with | [_, _], _ => rfl
  | 12, h => cases h; match us, hl with | [_, _], _ => rfl
  | 13, h => cases h; match us, hl with | [_, _], _ => rfl
  | 14, h => cases h; match us, hl with | [_, _], _ => rfl
  | 15, h => cases h; match us, hl with | [_, _, _], _ => rfl
  | 16, h => cases h; match us, hl with | [_, _], _ => rfl
  | 17, h => cases h; match us, hl with | [_, _, _], _ => rfl
  | 18, h => cases h; match us, hl with | [_, _], _ => rfl
  | n + 19, h => cases h
theorem kwx1 : ∀ (i : Nat) (t : XT), xsT[i]? = some t → ∀ ks pm', (i, ks, pm') ∈ mc.kx → ∀ (kV doc pm : Value) (an : Option Addr) (cdv ct : Value) (us ws : List Value), us.length = 1 → ws.length = ks.length → bindArgs (PySem.W.fnOf "__init__" (t.nm ++ (".__init__" : Str)) (defArgs t.st) (defBody t.st) (defScope t.st) .none kV doc pm an cdv ct) ⟨us, ks.zip ws⟩ = pure (t.N.zip (permL (0 :: pm'.map (· + 1)) (us ++ ws))) := by
  intro i t h ks pm' hm kV doc pm an cdv ct us ws hl hl2
  simp only [mc, List.mem_cons, List.not_mem_nil, or_false, Prod.mk.injEq] at hm
  rcases hm with ⟨rfl, rfl, rfl⟩ | ⟨rfl, rfl, rfl⟩ | ⟨rfl, rfl, rfl⟩ | ⟨rfl, rfl, rfl⟩ | ⟨rfl, rfl, rfl⟩ | ⟨rfl, rfl, rfl⟩ | ⟨rfl, rfl, rfl⟩ | ⟨rfl, rfl, rfl⟩ | ⟨rfl, rfl, rfl⟩ | ⟨rfl, rfl, rfl⟩ | ⟨rfl, rfl, rfl⟩ | ⟨rfl, rfl, rfl⟩ | ⟨rfl, rfl, rfl⟩ | ⟨rfl, rfl, rfl⟩ | ⟨rfl, rfl, rfl⟩ | ⟨rfl, rfl, rfl⟩ | ⟨rfl, rfl, rfl⟩ | ⟨rfl, rfl, rfl⟩
  · cases h; match us, ws, hl, hl2 with | [_], [_], _, _ => rfl
  · cases h; match us, ws, hl, hl2 with | [_], [_], _, _ => rfl
  · cases h; match us, ws, hl, hl2 with | [_], [_], _, _ => rfl
  · cases h; match us, ws, hl, hl2 with | [_], [_], _, _ => rfl
  · cases h; match us, ws, hl, hl2 with | [_], [_], _, _ => rfl
  · cases h; match us, ws, hl, hl2 with | [_], [_], _, _ => rfl
  · cases h; match us, ws, hl, hl2 with | [_], [_], _, _ => rfl
  · cases h; match us, ws, hl, hl2 with | [_], [_], _, _ => rfl
  · cases h; match us, ws, hl, hl2 with | [_], [_], _, _ => rfl
  · cases h; match us, ws, hl, hl2 with | [_], [_], _, _ => rfl
  · cases h; match us, ws, hl, hl2 with | [_], [_], _, _ => rfl
  · cases h; match us, ws, hl, hl2 with | [_], [_], _, _ => rfl
  · cases h; match us, ws, hl, hl2 with | [_], [_], _, _ => rfl
  · cases h; match us, ws, hl, hl2 with | [_], [_, _], _, _ => rfl
  · cases h; match us, ws, hl, hl2 with | [_], [_, _], _, _ => rfl
  · cases h; match us, ws, hl, hl2 with | [_], [_], _, _ => rfl
  · cases h; match us, ws, hl, hl2 with | [_], [_], _, _ => rfl
  · cases h; match us, ws, hl, hl2 with | [_], [_], _, _ => rfl
theorem kwx : kwX mc.kx xsT := fun i t h hh => ⟨kwx0 i t h hh, kwx1 i t h⟩
def nm0 : List Str := ["ModuleError", "InvalidName", "InvalidEntry", "InvalidPath", "InvalidTime", "InvalidBody", "InvalidFinder", "InvalidWorld", "InvalidLoaded", "InvalidMoves", "Impossible", "InvalidJournal", "InvalidText", "LoadError", "ModuleMissing", "WordMissing", "Stopped", "Uncompiled", "BeyondTop", "_law_begin", "_law_take", "_law_pick", "_law_marks", "_law_first_ones", "_law_later_ones", "_law_held", "_law_right", "_law_caught"]
def nms : List Str := nm0
theorem kw0 : ∀ (i : Nat) (t : FT), tab[i]? = some t → ∀ (kV doc pm : Value) (an : Option Addr) (cdv ct : Value) (us : List Value), us.length = t.ps.length → bindArgs (PySem.W.fnOf t.nm t.nm (defArgs t.st) (defBody t.st) (defScope t.st) .none kV doc pm an cdv ct) ⟨us, []⟩ = pure (t.ps.zip us) := by
  intro i t h kV doc pm an cdv ct us hl
  match i, h with
  | 0, h => cases h; match us, hl with | [_], _ => rfl
  | 1, h => cases h; match us, hl with | [_, _], _ => rfl
  | 2, h => cases h; match us, hl with | [_, _], _ => rfl
  | 3, h => cases h; match us, hl with | [_], _ => rfl
  | 4, h => cases h; match us, hl with | [_], _ => rfl
  | 5, h => cases h; match us, hl with | [_, _], _ => rfl
  | 6, h => cases h; match us, hl with | [_, _], _ => rfl
  | 7, h => cases h; match us, hl with | [_, _, _], _ => rfl
  | 8, h => cases h; match us, hl with | [_], _ => rfl
  | 9, h => cases h; match us, hl with | [_], _ => rfl
  | n + 10, h => cases h
theorem kw1 : ∀ (i : Nat) (t : FT), tab[i]? = some t → ∀ m ks pm', (i, m, ks, pm') ∈ mc.kw → ∀ (kV doc pm : Value) (an : Option Addr) (cdv ct : Value) (us ws : List Value), us.length = m → ws.length = ks.length → bindArgs (PySem.W.fnOf t.nm t.nm (defArgs t.st) (defBody t.st) (defScope t.st) .none kV doc pm an cdv ct) ⟨us, ks.zip ws⟩ = pure (t.ps.zip (permL pm' (us ++ ws))) := by
  intro i t h m ks pm' hm kV doc pm an cdv ct us ws hl hl2
  simp only [mc, List.mem_cons, List.not_mem_nil, or_false, Prod.mk.injEq] at hm
theorem look : tabB pg mc tab fnsT ltab lfnsT xsT mks = true := by decide +kernel
theorem kws : kwFor mc tab := fun i t h => ⟨kw0 i t h, kw1 i t h⟩
theorem pgok : PgOk pg fnsT lfnsT xsT subT := ⟨fun _ => rfl, fun _ => rfl, fun _ _ => rfl, fun _ _ => rfl, fun _ _ => rfl, rfl, fl_of rfl⟩
abbrev RW : PySem.W.OpenLaw := PySem.Challenge.rw_modcore_k13_errors
abbrev R : PySem.W.OpenRow := PySem.W.OpenLaw.row RW
abbrev faT : List He.Fa := faOf mc pg
abbrev fnT : List He.DefD := fnAll tab ltab xsT
abbrev exT : PySem.W.Frag → Bool := exAll mc pg xsT subT mks
abbrev tfT : List He.Defn := mks.map fun nm => (nm, none)
abbrev hk : PySem.W.Hook := hookW 5 faT exT fnT tfT
def ob (s : PySem.W.SharedT) : He.AlD := obsW faT exT fnT tfT (HandSHeadRun.getT s) (frL (HandSHeadRun.getT s) (rootsW (HandSHeadRun.getT s) 5))
theorem ob_eq (s : PySem.W.SharedT) : ob s = hk.obs s.abs := obsW_eq (HandSHeadRun.getT_eq s)
theorem run (w : World) : HandSHeadRun.RunEq R (PySem.W.view R.prog [30]) hk ob 20000 nms w := by
  intro os
  kernel_rfl
end K13
end

section
namespace K13
section
open PySem Vm
local macro_rules | `(tactic| walk_at "x1") => `(tactic| first
  | (with_reducible refine x_var ?_ ?_; exact rfl) | (with_reducible refine x_con ?_) | (with_reducible refine x_glo ?_ ?_; exact rfl) | (with_reducible refine x_bin ?_) | (with_reducible refine x_and ?_) | (with_reducible refine x_or ?_) | (with_reducible refine x_not ?_)
  | (with_reducible refine x_ite ?_) | (with_reducible refine x_cmp ?_) | (with_reducible refine x_chn ?_) | (with_reducible refine x_tup ?_) | (with_reducible refine x_lst ?_) | (with_reducible refine x_idx ?_) | (with_reducible refine x_slc ?_) | (with_reducible refine x_call ?_) | (with_reducible refine x_callk ?_)
  | (with_reducible refine x_bi ?_) | (with_reducible refine x_mth ?_) | (with_reducible refine x_isi ?_) | (with_reducible refine l_nil ?_) | (with_reducible refine l_cons ?_) | (with_reducible refine o_nil ?_) | (with_reducible refine o_some ?_) | (with_reducible refine t_nil ?_) | (with_reducible refine t_some ?_)
  | (with_reducible refine s_skip ?_) | (with_reducible refine s_seq ?_) | (with_reducible refine s_asg ?_) | (with_reducible refine s_asgT ?_) | (with_reducible refine s_ex ?_) | (with_reducible refine s_ret ?_) | (with_reducible refine s_ife ?_)
  | (with_reducible refine wpO_of ?_ ?_; exact rfl) | (with_reducible refine wpO_of (isi_p ?_) ?_; exact rfl))
local macro_rules | `(tactic| walk_at "xs") => `(tactic| repeat (walk_at "x1"; try dsimp only))
local macro_rules | `(tactic| walk_at "is") => `(tactic| (refine Is.of ?_; walk_at "xs"; exact ⟨rfl, rfl⟩))





theorem WFs.set {s : Store} (w : WFs s) {k : Nat} {c : Cell} (h : cellBelow s.length c = true) : WFs (s.set k c) := by
  unfold WFs at *
  rw [List.all_eq_true] at *
  intro x hx
  rw [List.length_set]
  rcases List.mem_or_eq_of_mem_set hx with hx | rfl
  · exact w x hx
  · exact h
theorem lt_of_get {s : Store} {k : Nat} {c : Cell} (h : s[k]? = some c) : k < s.length := by
  rcases Nat.lt_or_ge k s.length with q | q
  · exact q
  · rw [List.getElem?_eq_none_iff.mpr q] at h; cases h
variable {st s : Store} {stk : List Fr} {kc : Nat}
theorem see_ml {k : Nat} {vs : List Val} (h : s[k]? = some (.ml vs)) : see s (.r k) = .r k := by
  unfold see
  simp only [h, seeC]
theorem idx_ml {k : Nat} {vs : List Val} {i : Int} {v : Val} (h : s[k]? = some (.ml vs)) (h2 : L2.atI vs i = some v) : idxV s (.r k) (.p (.int i)) = some v := by
  unfold idxV
  rw [see_ml h]
  simp only [h]
  exact h2
theorem is_idxM {K : Kit} {a b : Ex} {env : Vm.Env} {k : Nat} {vs : List Val} {i : Int} {v : Val} (h1 : Is K a env s (.r k)) (h0 : Is K b env s (.p (.int i))) (h : s[k]? = some (.ml vs)) (h2 : L2.atI vs i = some v) : Is K (.idx a b) env s v := Is.of (x_idx (h1.wp (h0.wp (wpO_of (a := v) (idx_ml h h2) ⟨rfl, rfl⟩))))
end

section
open PySem Vm
local macro_rules | `(tactic| walk_at "x1") => `(tactic| first
  | (with_reducible refine x_var ?_ ?_; exact rfl) | (with_reducible refine x_con ?_) | (with_reducible refine x_glo ?_ ?_; exact rfl) | (with_reducible refine x_bin ?_) | (with_reducible refine x_and ?_) | (with_reducible refine x_or ?_) | (with_reducible refine x_not ?_)
  | (with_reducible refine x_ite ?_) | (with_reducible refine x_cmp ?_) | (with_reducible refine x_chn ?_) | (with_reducible refine x_tup ?_) | (with_reducible refine x_lst ?_) | (with_reducible refine x_idx ?_) | (with_reducible refine x_slc ?_) | (with_reducible refine x_call ?_) | (with_reducible refine x_callk ?_)
  | (with_reducible refine x_bi ?_) | (with_reducible refine x_mth ?_) | (with_reducible refine x_isi ?_) | (with_reducible refine l_nil ?_) | (with_reducible refine l_cons ?_) | (with_reducible refine o_nil ?_) | (with_reducible refine o_some ?_) | (with_reducible refine t_nil ?_) | (with_reducible refine t_some ?_)
  | (with_reducible refine s_skip ?_) | (with_reducible refine s_seq ?_) | (with_reducible refine s_asg ?_) | (with_reducible refine s_asgT ?_) | (with_reducible refine s_ex ?_) | (with_reducible refine s_ret ?_) | (with_reducible refine s_ife ?_)
  | (with_reducible refine wpO_of ?_ ?_; exact rfl) | (with_reducible refine wpO_of (isi_p ?_) ?_; exact rfl))
local macro_rules | `(tactic| walk_at "xs") => `(tactic| repeat (walk_at "x1"; try dsimp only))
local macro_rules | `(tactic| walk_at "is") => `(tactic| (refine Is.of ?_; walk_at "xs"; exact ⟨rfl, rfl⟩))





theorem f_gen {P : Pg} {n i : Nat} {d : Fn} {vs : List Val} {st : Store} {Q : Val → Store → Prop} (hd : P.fns i = some d) (hl : vs.length = d.np) (hk : d.keep = false)
    (h : wpF (execS (kitOf P n) P.fields d.body (vs.map some ++ List.replicate (d.ns - d.np) none) st)
      { nx := fun _ _ => False, rt := fun v s => (∃ d, v = .p d) ∧ WFs s ∧ s.length = st.length ∧ Q v s }) :
    wpR (runF P (n + 1) i vs st) Q (fun _ _ _ => False) := by
  rw [runF_succ, hd]
  simp only
  unfold runB
  rw [if_pos hl]
  revert h
  cases execS (kitOf P n) P.fields d.body (vs.map some ++ List.replicate (d.ns - d.np) none) st with
  | nx e1 s => exact fun h => h.elim
  | rt v s =>
    rintro ⟨⟨d, rfl⟩, wf, len, q⟩
    unfold outB
    simp only
    unfold leave
    rw [hk]
    simp only
    have e2 : s.take st.length = s := by rw [← len]; exact List.take_length
    have e3 : (s.take st.length).all (cellBelow st.length) = true := by rw [e2, ← len]; exact wf
    rw [if_pos e3, e2]
    exact q
  | er c fs e1 s => exact fun h => h.elim
  | bk e1 s => exact fun h => h.elim
  | ct e1 s => exact fun h => h.elim
  | no => exact fun h => h.elim
theorem is_mod {K : Kit} {a b : Ex} {env : Vm.Env} {st : Store} {i j : Int} (h1 : Is K a env st (.p (.int i))) (h2 : Is K b env st (.p (.int j))) (h : 0 < j) : Is K (.bin .mod a b) env st (.p (.int (i % j))) := Is.of (x_bin (h1.wp (h2.wp (wpO_of (a := .p (.int (i % j))) (by
  show (binD .mod (.int i) (.int j)).map Val.p = _
  unfold binD
  simp only
  rw [if_pos h]
  rfl) ⟨rfl, rfl⟩))))
theorem is_fdiv {K : Kit} {a b : Ex} {env : Vm.Env} {st : Store} {i j : Int} (h1 : Is K a env st (.p (.int i))) (h2 : Is K b env st (.p (.int j))) (h : 0 < j) (h' : j < 1073741824) : Is K (.bin .fdiv a b) env st (.p (.int (i / j))) := Is.of (x_bin (h1.wp (h2.wp (wpO_of (a := .p (.int (i / j))) (by
  show (binD .fdiv (.int i) (.int j)).map Val.p = _
  unfold binD
  simp only
  rw [if_pos ⟨h, h'⟩]
  rfl) ⟨rfl, rfl⟩))))
theorem is_mul {K : Kit} {a b : Ex} {env : Vm.Env} {st : Store} {i j : Int} (h1 : Is K a env st (.p (.int i))) (h2 : Is K b env st (.p (.int j))) (h : 0 ≤ i) (h' : i < 2147483648) : Is K (.bin .mul a b) env st (.p (.int (i * j))) := Is.of (x_bin (h1.wp (h2.wp (wpO_of (a := .p (.int (i * j))) (by
  show (binD .mul (.int i) (.int j)).map Val.p = _
  unfold binD
  simp only
  rw [if_pos (.inl ⟨by have : -(2 ^ 64 : Int) < 0 := by decide
                       omega, by have : (2147483648 : Int) < 2 ^ 64 := by decide
                                 omega⟩)]
  rfl) ⟨rfl, rfl⟩))))
structure D1 (kd kc : Nat) (is : List Int) (a m t : Int) (L : Nat) (s : Store) : Prop where
  c0 : s[kd]? = some (.ml [.r kc, .p (.int a), .p (.int m), .p (.int t)])
  c1 : s[kc]? = some (.pl (is.map .int))
  wf : WFs s
  len : s.length = L
structure Ok1 (is : List Int) (a m t : Int) : Prop where
  ne : is ≠ []
  nn : ∀ i ∈ is, 0 ≤ i
  a0 : 0 ≤ a
  m0 : 0 ≤ m
  m1 : m < 2147483647
  t0 : 0 ≤ t
def DS (kd L : Nat) (s : Store) : Prop := ∃ kc is a m t, D1 kd kc is a m t L s ∧ Ok1 is a m t
theorem DS.wf {kd L : Nat} {s : Store} (h : DS kd L s) : WFs s := by
  obtain ⟨_, _, _, _, _, h, _⟩ := h
  exact h.wf
theorem DS.len {kd L : Nat} {s : Store} (h : DS kd L s) : s.length = L := by
  obtain ⟨_, _, _, _, _, h, _⟩ := h
  exact h.len
section
variable {kd kc L : Nat} {is is' : List Int} {a m t a' m' t' : Int} {s : Store}
theorem D1.ne (D : D1 kd kc is a m t L s) : kc ≠ kd := fun e => by
  have := D.c1
  rw [e, D.c0] at this
  cases this
theorem D1.ml (D : D1 kd kc is a m t L s) : D1 kd kc is a' m' t' L (s.set kd (.ml [.r kc, .p (.int a'), .p (.int m'), .p (.int t')])) := by
  have h0 := lt_of_get D.c0
  have h1 := lt_of_get D.c1
  refine ⟨by rw [List.getElem?_set, if_pos rfl, if_pos h0], by rw [List.getElem?_set, if_neg D.ne.symm]; exact D.c1, WFs.set D.wf ?_, by rw [List.length_set]; exact D.len⟩
  show belowL s.length [.r kc, .p (.int a'), .p (.int m'), .p (.int t')] = true
  simp [belowL, below, h1]
theorem D1.pl (D : D1 kd kc is a m t L s) : D1 kd kc is' a m t L (s.set kc (.pl (is'.map .int))) := by
  have h0 := lt_of_get D.c0
  have h1 := lt_of_get D.c1
  exact ⟨by rw [List.getElem?_set, if_neg D.ne]; exact D.c0, by rw [List.getElem?_set, if_pos rfl, if_pos h1], WFs.set D.wf rfl, by rw [List.length_set]; exact D.len⟩
theorem D1.is0 {K : Kit} {env : Vm.Env} {x : Ex} (D : D1 kd kc is a m t L s) (h : Is K x env s (.r kd)) : Is K (.idx x (.con (.int 0))) env s (.r kc) := is_idxM h (is_con (d := .int 0)) D.c0 rfl
theorem D1.is1 {K : Kit} {env : Vm.Env} {x : Ex} (D : D1 kd kc is a m t L s) (h : Is K x env s (.r kd)) : Is K (.idx x (.con (.int 1))) env s (.p (.int a)) := is_idxM h (is_con (d := .int 1)) D.c0 rfl
theorem D1.is2 {K : Kit} {env : Vm.Env} {x : Ex} (D : D1 kd kc is a m t L s) (h : Is K x env s (.r kd)) : Is K (.idx x (.con (.int 2))) env s (.p (.int m)) := is_idxM h (is_con (d := .int 2)) D.c0 rfl
theorem D1.is3 {K : Kit} {env : Vm.Env} {x : Ex} (D : D1 kd kc is a m t L s) (h : Is K x env s (.r kd)) : Is K (.idx x (.con (.int 3))) env s (.p (.int t)) := is_idxM h (is_con (d := .int 3)) D.c0 rfl
end
theorem is_18 {K : Kit} {env : Vm.Env} {st : Store} : Is K (.bin .pow (.con (.int 10)) (.con (.int 18))) env st (.p (.int 1000000000000000000)) := Is.of (x_bin (x_con (x_con (wpO_of (a := .p (.int 1000000000000000000)) (by kernel_rfl) ⟨rfl, rfl⟩))))
theorem sub_is {K : Kit} {fl : Nat → List Str} {x a i : Ex} {env : Vm.Env} {st : Store} {D : FK} {k : Nat} {v : Val} {j : PyData} {c c' : Cell} (h : Is K x env st v) (ha : Is K a env st (.r k)) (hi : Is K i env st (.p j)) (hc : st[k]? = some c) (hp : putC c j v = some c') (q : D.nx env (st.set k c')) : wpF (execS K fl (.asg (.sub a i) x) env st) D :=
  s_sub (h.wp (ha.wp (hi.wp ⟨k, j, c, rfl, rfl, hc, wpO_of hp q⟩)))
theorem ixN_in {n : Nat} {i : Int} (h : 0 ≤ i) (h' : i < n) : L2.ixN n i = some i.toNat := by
  unfold L2.ixN
  rw [if_pos h, if_pos h']
theorem g_take {n kd L : Nat} {s : Store} {size : Int} (D : DS kd L s) (h0 : 0 < size) (h1 : size < 1073741824) : wpR (runF pg (n + 1) i__law_take [.r kd, .p (.int size)] s) (fun v s' => ∃ j, v = .p (.int j) ∧ 0 ≤ j ∧ j < size ∧ DS kd L s') (fun _ _ _ => False) := by
  have hlen := D.len
  obtain ⟨kc, is, a, m, t, D, o⟩ := D
  refine f_gen rfl rfl rfl ?_
  show wpF (execS (kitOf pg n) pg.fields b__law_take [some (.r kd), some (.p (.int size)), none, none, none] s) _
  unfold b__law_take
  have hl : 0 < is.length := List.length_pos_iff.mpr o.ne
  have hm0 : 0 ≤ a % (is.length : Int) := Int.emod_nonneg _ (by omega)
  have hm1 : a % (is.length : Int) < is.length := Int.emod_lt_of_pos _ (by omega)
  refine s_seq (asg_is (D.is0 (is_var rfl)) ?_)
  show wpF (execS (kitOf pg n) pg.fields _ [some (.r kd), some (.p (.int size)), some (.r kc), none, none] s) _
  have cl : Is (kitOf pg n) (.bi .len (.cons (.var 2) .nil)) [some (.r kd), some (.p (.int size)), some (.r kc), none, none] s (.p (.int is.length)) := Is.of (x_bi (l_cons (x_var rfl (l_nil (wpO_of (a := .p (.int is.length)) (by
    unfold biV seeM
    simp only [see_rd D.c1 rfl]
    show some (Val.p (.int ((is.map PyData.int).length : Nat))) = _
    rw [List.length_map]) ⟨rfl, rfl⟩)))))
  refine s_seq (asg_is (is_mod (D.is1 (is_var rfl)) cl (by omega)) ?_)
  show wpF (execS (kitOf pg n) pg.fields _ [some (.r kd), some (.p (.int size)), some (.r kc), some (.p (.int (a % (is.length : Int)))), none] s) _
  revert hm0 hm1
  generalize a % (is.length : Int) = j
  intro hm0 hm1
  obtain ⟨c, hc⟩ : ∃ c, is[j.toNat]? = some c := ⟨_, List.getElem?_eq_getElem (by omega)⟩
  have hc0 := o.nn c (List.mem_of_getElem? hc)
  have ce : Is (kitOf pg n) (.idx (.var 2) (.var 3)) [some (.r kd), some (.p (.int size)), some (.r kc), some (.p (.int j)), none] s (.p (.int c)) := Is.of (x_idx (x_var rfl (x_var rfl (wpO_of (a := .p (.int c)) (by
    unfold idxV
    rw [see_rd D.c1 rfl]
    show (idxD (.list (is.map PyData.int)) (.int j)).map Val.p = _
    unfold idxD atL L2.atI
    simp only
    rw [ixN_in hm0 (by rw [List.length_map]; exact hm1)]
    simp only [Option.bind_some]
    rw [List.getElem?_map, hc]
    rfl) ⟨rfl, rfl⟩))))
  refine s_seq (asg_is ce ?_)
  show wpF (execS (kitOf pg n) pg.fields _ [some (.r kd), some (.p (.int size)), some (.r kc), some (.p (.int j)), some (.p (.int c))] s) _
  refine s_seq (if_is (is_cmpI (o := .ge) (is_var (i := 4) rfl) is_18 rfl) (fun _ => ?_) fun _ => s_skip ?_)
  · refine s_seq (sub_is (k := kc) (c' := .pl ((is.set j.toNat (c / size)).map .int)) (is_fdiv (is_var rfl) (is_var rfl) h0 h1) (is_var rfl) (is_var rfl) D.c1 ?_ ?_)
    · show (L2.ixN (is.map PyData.int).length j).map _ = _
      rw [ixN_in hm0 (by rw [List.length_map]; exact hm1), List.map_set]
      rfl
    · refine ret_is (is_mod (is_var rfl) (is_var rfl) h0) ?_
      have D' := D.pl (is' := is.set j.toNat (c / size))
      refine ⟨⟨_, rfl⟩, D'.wf, by rw [D'.len, hlen], c % size, rfl, Int.emod_nonneg _ (by omega), Int.emod_lt_of_pos _ h0, kc, _, _, _, _, D', ⟨fun e => ?_, fun i hi => ?_, o.a0, o.m0, o.m1, o.t0⟩⟩
      · have := congrArg List.length e
        rw [List.length_set] at this
        simp at this
        exact o.ne this
      · rcases List.mem_or_eq_of_mem_set hi with hi | rfl
        · exact o.nn i hi
        · exact Int.ediv_nonneg hc0 (by omega)
  · refine s_seq (sub_is (k := kd) (c' := .ml [.r kc, .p (.int (a + 1)), .p (.int m), .p (.int t)]) (is_add (D.is1 (is_var rfl)) is_con) (is_var rfl) is_con D.c0 rfl ?_)
    have D2 := D.ml (a' := a + 1) (m' := m) (t' := t)
    refine s_seq (sub_is (k := kd) (c' := .ml [.r kc, .p (.int (a + 1)), .p (.int m), .p (.int (t + 1))]) (is_add (D2.is3 (is_var rfl)) is_con) (is_var rfl) is_con D2.c0 rfl ?_)
    have D3 := D2.ml (a' := a + 1) (m' := m) (t' := t + 1)
    have o1 := o.m0
    have o2 := o.m1
    have o3 := o.t0
    have o4 := o.a0
    refine s_seq (sub_is (k := kd) (c' := .ml [.r kc, .p (.int (a + 1)), .p (.int ((m * 48271 + c + 7919 * (t + 1) + 12345) % 2147483647)), .p (.int (t + 1))]) (is_mod (is_add (is_add (is_add (is_mul (D3.is2 (is_var rfl)) is_con o1 (by omega)) (is_var rfl)) (is_mul is_con (D3.is3 (is_var rfl)) (by decide) (by decide))) is_con) is_con (by decide)) (is_var rfl) is_con D3.c0 rfl ?_)
    have D4 := D3.ml (a' := a + 1) (m' := (m * 48271 + c + 7919 * (t + 1) + 12345) % 2147483647) (t' := t + 1)
    have q0 : 0 ≤ (m * 48271 + c + 7919 * (t + 1) + 12345) % 2147483647 := Int.emod_nonneg _ (by decide)
    have q1 : (m * 48271 + c + 7919 * (t + 1) + 12345) % 2147483647 < 2147483647 := Int.emod_lt_of_pos _ (by decide)
    revert D4 q0 q1
    generalize (m * 48271 + c + 7919 * (t + 1) + 12345) % 2147483647 = m'
    intro D4 q0 q1
    refine ret_is (is_mod (is_fdiv (is_mod (is_mul (D4.is2 (is_var rfl)) (D4.is2 (is_var rfl)) q0 (by omega)) is_con (by decide)) is_con (by decide) (by decide)) (is_var rfl) h0) ?_
    exact ⟨⟨_, rfl⟩, D4.wf, by rw [D4.len, hlen], _, rfl, Int.emod_nonneg _ (by omega), Int.emod_lt_of_pos _ h0, kc, _, _, _, _, D4, ⟨o.ne, o.nn, by omega, q0, q1, by omega⟩⟩
theorem g_pick {n kd L : Nat} {s : Store} {ds : List PyData} (D : DS kd L s) (h0 : ds ≠ []) (h1 : ds.length ≤ 1000) : wpR (runF pg (n + 2) i__law_pick [.r kd, .p (.list ds)] s) (fun v s' => ∃ d ∈ ds, v = .p d ∧ DS kd L s') (fun _ _ _ => False) := by
  have hlen := D.len
  refine f_gen rfl rfl rfl ?_
  show wpF (execS (kitOf pg (n + 1)) pg.fields b__law_pick [some (.r kd), some (.p (.list ds))] s) _
  unfold b__law_pick
  have hp : 0 < ds.length := List.length_pos_iff.mpr h0
  refine s_ret (x_idx (x_var rfl (x_call (l_cons (x_var rfl (l_cons ((len_list (is_var rfl)).wp (l_nil ?_))))))))
  refine wpR.any (g_take D (by omega) (by omega)) ?_
  rintro v s1 ⟨j, rfl, j0, j1, D1⟩
  obtain ⟨d, hd⟩ : ∃ d, ds[j.toNat]? = some d := ⟨_, List.getElem?_eq_getElem (by omega)⟩
  refine wpO_of (a := .p d) ?_ ⟨⟨_, rfl⟩, D1.wf, by rw [D1.len, hlen], d, List.mem_of_getElem? hd, rfl, D1⟩
  show (idxD (.list ds) (.int j)).map Val.p = _
  unfold idxD atL L2.atI
  simp only
  rw [ixN_in j0 j1]
  simp only [Option.bind_some, hd]
  rfl

end

section
open PySem Vm
local macro_rules | `(tactic| walk_at "x1") => `(tactic| first
  | (with_reducible refine x_var ?_ ?_; exact rfl) | (with_reducible refine x_con ?_) | (with_reducible refine x_glo ?_ ?_; exact rfl) | (with_reducible refine x_bin ?_) | (with_reducible refine x_and ?_) | (with_reducible refine x_or ?_) | (with_reducible refine x_not ?_)
  | (with_reducible refine x_ite ?_) | (with_reducible refine x_cmp ?_) | (with_reducible refine x_chn ?_) | (with_reducible refine x_tup ?_) | (with_reducible refine x_lst ?_) | (with_reducible refine x_idx ?_) | (with_reducible refine x_slc ?_) | (with_reducible refine x_call ?_) | (with_reducible refine x_callk ?_)
  | (with_reducible refine x_bi ?_) | (with_reducible refine x_mth ?_) | (with_reducible refine x_isi ?_) | (with_reducible refine l_nil ?_) | (with_reducible refine l_cons ?_) | (with_reducible refine o_nil ?_) | (with_reducible refine o_some ?_) | (with_reducible refine t_nil ?_) | (with_reducible refine t_some ?_)
  | (with_reducible refine s_skip ?_) | (with_reducible refine s_seq ?_) | (with_reducible refine s_asg ?_) | (with_reducible refine s_asgT ?_) | (with_reducible refine s_ex ?_) | (with_reducible refine s_ret ?_) | (with_reducible refine s_ife ?_)
  | (with_reducible refine wpO_of ?_ ?_; exact rfl) | (with_reducible refine wpO_of (isi_p ?_) ?_; exact rfl))
local macro_rules | `(tactic| walk_at "xs") => `(tactic| repeat (walk_at "x1"; try dsimp only))
local macro_rules | `(tactic| walk_at "is") => `(tactic| (refine Is.of ?_; walk_at "xs"; exact ⟨rfl, rfl⟩))





theorem ev_nil {K : Kit} {env : Vm.Env} {st : Store} : evalL K .nil env st = .ok [] st := eq_of (l_nil ⟨rfl, rfl⟩)
theorem ev_cons {K : Kit} {a b : Ex} {env : Vm.Env} {st : Store} {d : PyData} {ds : List PyData} (h1 : Is K a env st (.p d)) (h2 : evalL K b env st = .ok (ds.map .p) st) : evalL K (.cons a b) env st = .ok ((d :: ds).map .p) st := eq_of (l_cons (h1.wp (wp_eq h2 ⟨rfl, rfl⟩)))
section
variable {K : Kit} {env : Vm.Env} {st : Store}
end
local macro_rules | `(tactic| walk_at "ll") => `(tactic| repeat (first | exact ev_nil | (refine ev_cons (by first | exact is_con | exact is_neg | exact is_pow | exact is_npow | exact is_pow1 | exact is_1pow | exact is_p26 | exact is_n26 | exact is_e0) ?_)))
theorem f_gd {P : Pg} {n i kd L : Nat} {d : Fn} {vs : List Val} {st : Store} {Pp : PyData → Prop} (hd : P.fns i = some d) (hl : vs.length = d.np) (hk : d.keep = false) (D : DS kd L st)
    (h : wpF (execS (kitOf P n) P.fields d.body (vs.map some ++ List.replicate (d.ns - d.np) none) st)
      { nx := fun _ _ => False, rt := fun v s => ∃ d, v = .p d ∧ Pp d ∧ DS kd L s }) :
    wpR (runF P (n + 1) i vs st) (fun v s => ∃ d, v = .p d ∧ Pp d ∧ DS kd L s) (fun _ _ _ => False) := by
  refine f_gen hd hl hk ?_
  revert h
  cases execS (kitOf P n) P.fields d.body (vs.map some ++ List.replicate (d.ns - d.np) none) st with
  | nx e1 s => exact fun h => h.elim
  | rt v s => exact fun ⟨d, e, p, D1⟩ => ⟨⟨d, e⟩, D1.wf, by rw [D1.len, D.len], d, e, p, D1⟩
  | er c fs e1 s => exact fun h => h.elim
  | bk e1 s => exact fun h => h.elim
  | ct e1 s => exact fun h => h.elim
  | no => exact fun h => h.elim
/-- a pick from a list that stands there -/
theorem x_pick {n kd L i : Nat} {es : Ex} {env : Vm.Env} {s : Store} {ds : List PyData} {Q : Val → Store → Prop} {E : EK} (D : DS kd L s) (he : env[i]? = some (some (.r kd))) (hl : evalX (kitOf pg (n + 2)) es env s = .ok (.p (.list ds)) s) (h0 : ds ≠ []) (h1 : ds.length ≤ 1000) (q : ∀ d ∈ ds, ∀ s', DS kd L s' → Q (.p d) s') : wpR (evalX (kitOf pg (n + 2)) (.call i__law_pick (.cons (.var i) (.cons es .nil))) env s) Q E :=
  x_call (l_cons (x_var he (l_cons (wp_eq hl (l_nil (wpR.any (g_pick D h0 h1) fun v s' ⟨d, hd, e, D1⟩ => by rw [e]; exact q d hd s' D1))))))
theorem x_take {n kd L i : Nat} {e : Ex} {env : Vm.Env} {s : Store} {size : Int} {Q : Val → Store → Prop} {E : EK} (D : DS kd L s) (he : env[i]? = some (some (.r kd))) (hl : Is (kitOf pg (n + 1)) e env s (.p (.int size))) (h0 : 0 < size) (h1 : size < 1073741824) (q : ∀ j s', 0 ≤ j → j < size → DS kd L s' → Q (.p (.int j)) s') : wpR (evalX (kitOf pg (n + 1)) (.call i__law_take (.cons (.var i) (.cons e .nil))) env s) Q E :=
  x_call (l_cons (x_var he (l_cons (hl.wp (l_nil (wpR.any (g_take D h0 h1) fun v s' ⟨j, e, j0, j1, D1⟩ => by rw [e]; exact q j s' j0 j1 D1))))))
end

section
open PySem Vm
local macro_rules | `(tactic| walk_at "x1") => `(tactic| first
  | (with_reducible refine x_var ?_ ?_; exact rfl) | (with_reducible refine x_con ?_) | (with_reducible refine x_glo ?_ ?_; exact rfl) | (with_reducible refine x_bin ?_) | (with_reducible refine x_and ?_) | (with_reducible refine x_or ?_) | (with_reducible refine x_not ?_)
  | (with_reducible refine x_ite ?_) | (with_reducible refine x_cmp ?_) | (with_reducible refine x_chn ?_) | (with_reducible refine x_tup ?_) | (with_reducible refine x_lst ?_) | (with_reducible refine x_idx ?_) | (with_reducible refine x_slc ?_) | (with_reducible refine x_call ?_) | (with_reducible refine x_callk ?_)
  | (with_reducible refine x_bi ?_) | (with_reducible refine x_mth ?_) | (with_reducible refine x_isi ?_) | (with_reducible refine l_nil ?_) | (with_reducible refine l_cons ?_) | (with_reducible refine o_nil ?_) | (with_reducible refine o_some ?_) | (with_reducible refine t_nil ?_) | (with_reducible refine t_some ?_)
  | (with_reducible refine s_skip ?_) | (with_reducible refine s_seq ?_) | (with_reducible refine s_asg ?_) | (with_reducible refine s_asgT ?_) | (with_reducible refine s_ex ?_) | (with_reducible refine s_ret ?_) | (with_reducible refine s_ife ?_)
  | (with_reducible refine wpO_of ?_ ?_; exact rfl) | (with_reducible refine wpO_of (isi_p ?_) ?_; exact rfl))
local macro_rules | `(tactic| walk_at "xs") => `(tactic| repeat (walk_at "x1"; try dsimp only))
local macro_rules | `(tactic| walk_at "is") => `(tactic| (refine Is.of ?_; walk_at "xs"; exact ⟨rfl, rfl⟩))





section
variable {K : Kit} {env : Vm.Env} {st : Store}
end
local macro_rules | `(tactic| walk_at "l1") => `(tactic| first | exact is_con | exact is_neg | exact is_pow | exact is_npow | exact is_pow1 | exact is_1pow | exact is_e0 | exact is_dic0 | exact is_t1 is_con | exact is_t2 is_con is_con | exact is_lst1 is_con | exact is_t1 (is_t1 is_con) | exact is_t1 (is_t3 is_con is_con is_con))
local macro_rules | `(tactic| walk_at "ll") => `(tactic| repeat (first | exact ev_nil | (refine ev_cons (by walk_at "l1") ?_)))
theorem cutL_to {α : Type} (xs : List α) (j : Nat) : cutL xs none (some (j : Int)) = xs.take j := by
  unfold cutL
  rw [HT.sIx_nat, HT.sIx_none, List.drop_zero, Nat.sub_zero]
  rcases Nat.le_total j xs.length with h | h
  · rw [Nat.min_eq_left h]
  · rw [Nat.min_eq_right h, List.take_length, List.take_of_length_le h]
section
variable {K : Kit} {a e : Ex} {env : Vm.Env} {st : Store} {ds : List PyData} {j : Nat}
theorem is_toL (h1 : Is K a env st (.p (.list ds))) (h2 : Is K e env st (.p (.int (j : Int)))) : Is K (.slc a .nil (.cons e .nil)) env st (.p (.list (ds.take j))) := Is.of (x_slc (h1.wp (o_nil (o_some (h2.wp ⟨(j : Int), rfl, wpO_of (a := .p (.list (ds.take j))) (by
  show (slcD none (some (j : Int)) (.list ds)).map Val.p = _
  unfold slcD
  simp only [cutL_to]
  rfl) ⟨rfl, rfl⟩⟩)))))
end
end

section
open PySem Vm
local macro_rules | `(tactic| walk_at "x1") => `(tactic| first
  | (with_reducible refine x_var ?_ ?_; exact rfl) | (with_reducible refine x_con ?_) | (with_reducible refine x_glo ?_ ?_; exact rfl) | (with_reducible refine x_bin ?_) | (with_reducible refine x_and ?_) | (with_reducible refine x_or ?_) | (with_reducible refine x_not ?_)
  | (with_reducible refine x_ite ?_) | (with_reducible refine x_cmp ?_) | (with_reducible refine x_chn ?_) | (with_reducible refine x_tup ?_) | (with_reducible refine x_lst ?_) | (with_reducible refine x_idx ?_) | (with_reducible refine x_slc ?_) | (with_reducible refine x_call ?_) | (with_reducible refine x_callk ?_)
  | (with_reducible refine x_bi ?_) | (with_reducible refine x_mth ?_) | (with_reducible refine x_isi ?_) | (with_reducible refine l_nil ?_) | (with_reducible refine l_cons ?_) | (with_reducible refine o_nil ?_) | (with_reducible refine o_some ?_) | (with_reducible refine t_nil ?_) | (with_reducible refine t_some ?_)
  | (with_reducible refine s_skip ?_) | (with_reducible refine s_seq ?_) | (with_reducible refine s_asg ?_) | (with_reducible refine s_asgT ?_) | (with_reducible refine s_ex ?_) | (with_reducible refine s_ret ?_) | (with_reducible refine s_ife ?_)
  | (with_reducible refine wpO_of ?_ ?_; exact rfl) | (with_reducible refine wpO_of (isi_p ?_) ?_; exact rfl))
local macro_rules | `(tactic| walk_at "xs") => `(tactic| repeat (walk_at "x1"; try dsimp only))
local macro_rules | `(tactic| walk_at "is") => `(tactic| (refine Is.of ?_; walk_at "xs"; exact ⟨rfl, rfl⟩))





theorem is_min {K : Kit} {a b : Ex} {env : Vm.Env} {st : Store} {i j : Int} (h1 : Is K a env st (.p (.int i))) (h2 : Is K b env st (.p (.int j))) : Is K (.bi .min2 (.cons a (.cons b .nil))) env st (.p (.int (if j < i then j else i))) := Is.of (x_bi (l_cons (h1.wp (l_cons (h2.wp (l_nil (wpO_of rfl ⟨rfl, rfl⟩)))))))
theorem g_begin {n : Nat} {ns : List Int} (hn : ns.length ≤ 63) : wpR (runF pg (n + 1) i__law_begin [.p (.list (ns.map .int))] []) (fun v s => ∃ kd L, v = .r kd ∧ DS kd L s) (fun _ _ _ => False) := by
  have sz : SZ = 16777216 := rfl
  have key : wpF (execS (kitOf pg n) pg.fields b__law_begin [some (.p (.list (ns.map .int))), none] []) { nx := fun _ _ => False, rt := fun v s => ∃ kd L, v = .r kd ∧ DS kd L s } := by
    unfold b__law_begin
    have c1 : Is (kitOf pg n) (.slc (.var 0) .nil (.cons (.con (.int 63)) .nil)) [some (.p (.list (ns.map .int))), none] [] (.p (.list ((ns.map .int).take 63))) := is_toL (j := 63) (is_var rfl) is_con
    have fin : ∀ (kc : Nat) (is : List Int) (s : Store) , is ≠ [] → (∀ i ∈ is, 0 ≤ i) → s[kc]? = some (.pl (is.map .int)) → WFs s → wpR (alloc 2 [.r kc, .p (.int 0), .p (.int 1), .p (.int 0)] s) (fun v s => ∃ kd L, v = .r kd ∧ DS kd L s) (fun _ _ _ => False) := fun kc is s h1 h2 h3 wf => by
      have hk := lt_of_get h3
      refine wp_ok (a := Val.r s.length) (s := s ++ [Cell.ml [.r kc, .p (.int 0), .p (.int 1), .p (.int 0)]]) ⟨s.length, s.length + 1, rfl, kc, is, 0, 1, 0, ⟨by simp, by rw [List.getElem?_append_left hk]; exact h3, wf.app ?_, by simp⟩, ⟨h1, h2, by decide, by decide, by decide, by decide⟩⟩
      simp [cellBelow, belowL, below]
      omega
    refine s_ret (x_lst (l_cons (x_or (x_lc (fun items acc s => ∃ is ms : List Int, items = ms.map (fun i => Val.p (.int i)) ∧ acc = is.map (fun i => Val.p (.int i)) ∧ (∀ i ∈ is, 0 ≤ i) ∧ is.length + ms.length ≤ 63 ∧ s = []) ?_ ?_ ?_))))
    · refine (i_lst c1).imp ?_
      rintro items s ⟨rfl, rfl⟩
      refine ⟨[], ns.take 63, by rw [← List.map_take, List.map_map]; rfl, rfl, (fun i (hi : i ∈ ([] : List Int)) => nomatch hi), by simp only [List.length_nil, List.length_take]; omega, rfl⟩
    · rintro v vs acc s ⟨is, ms, hm, rfl, hi, hl, rfl⟩
      cases ms with
      | nil => cases hm
      | cons m ms =>
        rw [List.map_cons] at hm
        cases hm
        refine wpO_of (a := [some (.p (.list (ns.map .int))), some (.p (.int m))]) rfl (t_nil (wpB_t (x_bi (l_cons (x_var rfl (l_nil (wpO_of (a := .p (.int (if m < 0 then -m else m))) rfl ?_)))))))
        refine ⟨is ++ [if m < 0 then -m else m], ms, rfl, by simp, fun i h => ?_, by simp only [List.length_append, List.length_cons, List.length_nil] at hl ⊢; omega, rfl⟩
        rcases List.mem_append.mp h with h | h
        · exact hi i h
        · rw [List.mem_singleton] at h
          rw [h]
          split <;> omega
    · rintro acc s ⟨is, ms, hm, rfl, hi, hl, rfl⟩
      refine ⟨by rw [List.length_map]; omega, ?_⟩
      have e1 : is.map (fun i => Val.p (.int i)) = (is.map PyData.int).map Val.p := by rw [List.map_map]; rfl
      rw [e1]
      unfold Vm.alloc
      simp only [unPs_map]
      refine wp_ok ?_
      have e2 : see ([] ++ [Cell.pl (is.map PyData.int)]) (.r ([] : Store).length) = .p (.list (is.map .int)) := rfl
      rw [e2]
      cases is with
      | nil =>
        refine wpO_of (a := false) rfl (wpB_f (x_lst (l_cons (x_con (l_nil ⟨by show 1 ≤ SZ; decide, wp_ok (a := Val.r 1) (s := [.pl [], .pl [.int 7]]) ?_⟩)))))
        exact l_cons (x_con (l_cons (x_con (l_cons (x_con (l_nil ⟨by show 4 ≤ SZ; decide, fin 1 [7] _ (by decide) (by decide) rfl rfl⟩))))))
      | cons i is =>
        refine wpO_of (a := true) rfl (wpB_t ?_)
        exact l_cons (x_con (l_cons (x_con (l_cons (x_con (l_nil ⟨by show 4 ≤ SZ; decide, fin 0 (i :: is) _ (by simp) hi rfl rfl⟩))))))
  show wpR (match execS (kitOf pg n) pg.fields b__law_begin [some (.p (.list (ns.map .int))), none] [] with
        | .rt v s1 => leave true 0 v s1
        | .nx _ s1 => leave true 0 (.p .none) s1
        | .er c fs _ s1 => leaveE true 0 c fs s1
        | .bk _ _ => .no
        | .ct _ _ => .no
        | .no => .no) _ _
  revert key
  cases execS (kitOf pg n) pg.fields b__law_begin [some (.p (.list (ns.map .int))), none] [] with
  | nx e1 s => exact fun h => h.elim
  | rt v s => exact fun h => h
  | er c fs e1 s => exact fun h => h.elim
  | bk e1 s => exact fun h => h.elim
  | ct e1 s => exact fun h => h.elim
  | no => exact fun h => h.elim

end

section
open PySem Vm
local macro_rules | `(tactic| walk_at "x1") => `(tactic| first
  | (with_reducible refine x_var ?_ ?_; exact rfl) | (with_reducible refine x_con ?_) | (with_reducible refine x_glo ?_ ?_; exact rfl) | (with_reducible refine x_bin ?_) | (with_reducible refine x_and ?_) | (with_reducible refine x_or ?_) | (with_reducible refine x_not ?_)
  | (with_reducible refine x_ite ?_) | (with_reducible refine x_cmp ?_) | (with_reducible refine x_chn ?_) | (with_reducible refine x_tup ?_) | (with_reducible refine x_lst ?_) | (with_reducible refine x_idx ?_) | (with_reducible refine x_slc ?_) | (with_reducible refine x_call ?_) | (with_reducible refine x_callk ?_)
  | (with_reducible refine x_bi ?_) | (with_reducible refine x_mth ?_) | (with_reducible refine x_isi ?_) | (with_reducible refine l_nil ?_) | (with_reducible refine l_cons ?_) | (with_reducible refine o_nil ?_) | (with_reducible refine o_some ?_) | (with_reducible refine t_nil ?_) | (with_reducible refine t_some ?_)
  | (with_reducible refine s_skip ?_) | (with_reducible refine s_seq ?_) | (with_reducible refine s_asg ?_) | (with_reducible refine s_asgT ?_) | (with_reducible refine s_ex ?_) | (with_reducible refine s_ret ?_) | (with_reducible refine s_ife ?_)
  | (with_reducible refine wpO_of ?_ ?_; exact rfl) | (with_reducible refine wpO_of (isi_p ?_) ?_; exact rfl))
local macro_rules | `(tactic| walk_at "xs") => `(tactic| repeat (walk_at "x1"; try dsimp only))
local macro_rules | `(tactic| walk_at "is") => `(tactic| (refine Is.of ?_; walk_at "xs"; exact ⟨rfl, rfl⟩))





section
variable {n kd L : Nat} {s : Store} {scr : Val} {x2 x4 x5 x6 x7 : Option Val} {d : PyData} {D : FK}
theorem i_rngJ {K : Kit} {a : Ex} {env : Vm.Env} {st : Store} {Q : List Val → Store → Prop} {E : EK} (h : wpR (evalX K a env st) (fun x s => ∃ i : Int, x = .p (.int i) ∧ 0 ≤ i ∧ i ≤ 4096 ∧ ∀ items : List Val, items.length = i.toNat → Q items s) E) : wpR (evalI K (.rng (.con (.int 0)) a) env st) Q E := by
  refine i_rng (x_con (h.imp ?_))
  rintro x s ⟨i, rfl, h0, h1, q⟩
  have p : (4096 : Int) < 2 ^ 62 := by decide
  have p2 : -(2 ^ 62 : Int) ≤ 0 := by decide
  refine ⟨0, i, rfl, rfl, ⟨p2, by omega, by omega, by omega⟩, q _ ?_⟩
  unfold rangeV
  rw [List.length_map, List.length_range]
  omega
end
end
end K13
end

section
/-! the errors, made and looked at. -/
namespace K13
open PySem Vm
theorem out_rt {L : Nat} {st : Store} {v : Val} {d : PyData} (wf : WFs st) : outB false st.length (.rt (.p d) st) = .ok (.p d) st := by
  have w := wfs_iff.mp wf
  show leave false st.length (.p d) st = _
  unfold leave
  simp
  exact w
theorem out_l {st ext : Store} {xs : List Val} (wf : WFs st) (h : belowL st.length xs = true) : outB false st.length (.rt (.l xs) (st ++ ext)) = .ok (.l xs) st := by
  have w := wfs_iff.mp wf
  show leave false st.length (.l xs) (st ++ ext) = _
  unfold leave
  have e : (st ++ ext).take st.length = st := by simp
  rw [e]
  have a : (st.all (cellBelow st.length)) = true := wf
  simp only [a, if_true]
  have b : below st.length (.l xs) = true := by rw [below]; exact h
  rw [if_pos b]
def pr (c : Nat) (fs : List (Str × PyData)) : Val := .t [.x c fs, .x c fs]
def rowsA (d : PyData) : List Val := [pr 1 [("name", d)], pr 2 [("entry", d)], pr 3 [("path", d)], pr 4 [("time", d)], pr 5 [("line", d)], pr 6 [("index", d)], pr 7 [("name", d)], pr 8 [("name", d)], pr 9 [("index", d)], pr 10 [("reason", d)], pr 11 [("index", d)], pr 12 [("line", d)]]
def rowsB (d e : PyData) : List Val := [pr 13 [("name", d)], pr 14 [("name", d)], pr 15 [("word", e), ("name", d)], pr 16 [("name", d)], pr 17 [("line", e), ("name", d)], pr 18 [("name", d)]]
section
variable {n : Nat} {st : Store} {d e : PyData}
theorem belowA : belowL st.length (rowsA d) = true := by
  simp [rowsA, pr, belowL, below]
theorem belowB : belowL st.length (rowsB d e) = true := by
  simp [rowsB, pr, belowL, below]
theorem r_first (wf : WFs st) : runF pg (n + 1) i__law_first_ones [.p d] st = .ok (.l (rowsA d)) st := by
  rw [run_eq f__law_first_ones rfl rfl]
  have e : execS (kitOf pg n) pg.fields b__law_first_ones [some (.p d), none] st = .rt (.l (rowsA d)) st := by kernel_rfl
  show outB false st.length (execS (kitOf pg n) pg.fields b__law_first_ones [some (.p d), none] st) = _
  rw [e]
  have := out_l (ext := []) wf (belowA (st := st) (d := d))
  rwa [List.append_nil] at this
theorem r_caught (wf : WFs st) : runF pg (n + 1) i__law_caught [.p d] st = .ok (.p (.int 3)) st := by
  rw [run_eq f__law_caught rfl rfl]
  have e : execS (kitOf pg n) pg.fields b__law_caught [some (.p d), none] st = .rt (.p (.int 3)) st := by kernel_rfl
  show outB false st.length (execS (kitOf pg n) pg.fields b__law_caught [some (.p d), none] st) = _
  rw [e]
  exact out_rt (L := 0) (v := .p .none) wf
end
end K13
end

section
/-! the later ones; what is right. -/
namespace K13
open PySem Vm
def lo0 : Sm := (.asg (.n 2) (.lst 2 (.cons (.tup (.cons (.mkx 13 (.cons (.var 0) .nil)) (.cons (.mkk 13 ["name"] [0] (.cons (.var 0) .nil)) .nil))) (.cons (.tup (.cons (.mkx 14 (.cons (.var 0) .nil)) (.cons (.mkk 14 ["name"] [0] (.cons (.var 0) .nil)) .nil))) .nil))))
def loE1 : Ex := (.lst 0 (.cons (.tup (.cons (.mkx 15 (.cons (.var 0) (.cons (.var 1) .nil))) (.cons (.mkk 15 ["word", "name"] [1, 0] (.cons (.var 1) (.cons (.var 0) .nil))) .nil))) (.cons (.tup (.cons (.mkx 16 (.cons (.var 0) .nil)) (.cons (.mkk 16 ["name"] [0] (.cons (.var 0) .nil)) .nil))) .nil)))
def lo1 : Sm := (.asg (.n 2) (.cat 2 (.var 2) loE1))
def loE2 : Ex := (.tup (.cons (.mkx 17 (.cons (.var 0) (.cons (.var 1) .nil))) (.cons (.mkk 17 ["line", "name"] [1, 0] (.cons (.var 1) (.cons (.var 0) .nil))) .nil)))
def lo2 : Sm := (.ex (.mth .append (.var 2) (.cons loE2 .nil)))
def loE3 : Ex := (.lst 0 (.cons (.tup (.cons (.mkx 18 (.cons (.var 0) .nil)) (.cons (.mkk 18 ["name"] [0] (.cons (.var 0) .nil)) .nil))) .nil))
def lo3 : Sm := (.ret (.cat 0 (.var 2) loE3))
theorem lo_eq : b__law_later_ones = .seq lo0 (.seq lo1 (.seq lo2 lo3)) := rfl
theorem seq_ml {st : Store} {k : Nat} {vs : List Val} (h : st[k]? = some (.ml vs)) : seqL st (.r k) = some vs := by
  simp [seqL, see, h, seeC]
theorem seq_l {st : Store} {vs : List Val} : seqL st (.l vs) = some vs := rfl
theorem set_end {α : Type} (st : List α) (a b : α) : (st ++ [a]).set st.length b = st ++ [b] := by
  rw [List.set_append]; simp
theorem get_end {α : Type} (st : List α) (a : α) : (st ++ [a])[st.length]? = some a := by
  simp
section
variable {n : Nat} {st : Store} {d e : PyData} {K : Kit} {fl : Nat → List Str} {env : Vm.Env}
theorem cat_ml {f k : Nat} {a b : Ex} {xs ys : List Val} (ha : evalX K a env st = .ok (.r k) st) (hk : st[k]? = some (.ml xs)) (hb : evalX K b env st = .ok (.l ys) st) (hl : xs.length + ys.length ≤ 100) : evalX K (.cat f a b) env st = Vm.alloc f (xs ++ ys) st := by
  have z : SZ = 16777216 := rfl
  rw [evalX, ha]
  simp only [R.bind_ok]
  rw [hb]
  simp only [R.bind_ok, seq_ml hk, seq_l]
  rw [if_pos (by omega)]
theorem app_ml {i k : Nat} {x : Ex} {v : Val} {xs : List Val} (hi : env[i]? = some (some (.r k))) (hk : st[k]? = some (.ml xs)) (hx : evalX K x env st = .ok v st) (hl : xs.length ≤ 100) : execS K fl (.ex (.mth .append (.var i) (.cons x .nil))) env st = .nx env (st.set k (.ml (xs ++ [v]))) := by
  have z : xs.length < SZ := by have : SZ = 16777216 := rfl; omega
  simp [execS, evalX, evalL, hi, mkind, see, hk, seeC, supp, hx, mtV, mtC, z]
def rA (d : PyData) : List Val := [pr 13 [("name", d)], pr 14 [("name", d)]]
def rB (d e : PyData) : List Val := [pr 15 [("word", e), ("name", d)], pr 16 [("name", d)]]
def rC (d e : PyData) : Val := pr 17 [("line", e), ("name", d)]
def rD (d : PyData) : List Val := [pr 18 [("name", d)]]
theorem r_later (wf : WFs st) : runF pg (n + 1) i__law_later_ones [.p d, .p e] st = .ok (.l (rowsB d e)) st := by
  rw [run_eq f__law_later_ones rfl rfl]
  show outB false st.length (execS (kitOf pg n) pg.fields b__law_later_ones [some (.p d), some (.p e), none] st) = _
  have e0 : execS (kitOf pg n) pg.fields lo0 [some (.p d), some (.p e), none] st = .nx [some (.p d), some (.p e), some (.r st.length)] (st ++ [.ml (rA d)]) := by kernel_rfl
  have e1 : ∀ v s, evalX (kitOf pg n) loE1 [some (.p d), some (.p e), v] s = .ok (.l (rB d e)) s := fun v s => by kernel_rfl
  have e2 : ∀ v s, evalX (kitOf pg n) loE2 [some (.p d), some (.p e), v] s = .ok (rC d e) s := fun v s => by kernel_rfl
  have e3 : ∀ v s, evalX (kitOf pg n) loE3 [some (.p d), some (.p e), v] s = .ok (.l (rD d)) s := fun v s => by kernel_rfl
  have c1 := cat_ml (f := 2) (K := kitOf pg n) (env := [some (.p d), some (.p e), some (.r st.length)]) (a := .var 2) (by rw [evalX]; rfl) (get_end st (.ml (rA d))) (e1 _ _) (by show 4 ≤ 100; decide)
  rw [lo_eq, execS, e0]
  simp only
  rw [execS]
  unfold lo1
  rw [execS, c1]
  unfold Vm.alloc
  simp only [R.fl_ok]
  rw [execS]
  unfold lo2
  show outB false st.length (match execS (kitOf pg n) pg.fields (.ex (.mth .append (.var 2) (.cons loE2 .nil))) [some (.p d), some (.p e), some (.r (st ++ [Cell.ml (rA d)]).length)] (st ++ [Cell.ml (rA d)] ++ [.ml (rA d ++ rB d e)]) with
    | .nx e1 s1 => execS (kitOf pg n) pg.fields lo3 e1 s1
    | f => f) = _
  rw [app_ml (k := (st ++ [Cell.ml (rA d)]).length) rfl (get_end _ _) (e2 _ _) (by show 4 ≤ 100; decide), set_end]
  simp only
  unfold lo3
  have c3 := cat_ml (f := 0) (K := kitOf pg n) (env := [some (.p d), some (.p e), some (.r (st ++ [Cell.ml (rA d)]).length)]) (a := .var 2) (by rw [evalX]; rfl) (get_end (st ++ [Cell.ml (rA d)]) (.ml (rA d ++ rB d e ++ [rC d e]))) (e3 _ _) (by show 6 ≤ 100; decide)
  rw [execS, c3]
  have b := out_l (ext := [Cell.ml (rA d), .ml (rA d ++ rB d e ++ [rC d e])]) wf (belowB (st := st) (d := d) (e := e))
  rw [show st ++ [Cell.ml (rA d)] ++ [.ml (rA d ++ rB d e ++ [rC d e])] = st ++ [Cell.ml (rA d), .ml (rA d ++ rB d e ++ [rC d e])] from by simp]
  exact b
/-! ### right -/
def hopeE : Ex := (.lc 0 [4] (.rng (.con (.int 0)) (.con (.int 18))) .nil (.or (.cmp .eq (.var 4) (.var 1)) (.and (.cmp .gt (.var 1) (.con (.int 12))) (.cmp .eq (.var 4) (.con (.int 12))))))
def rg0 : Sm := (.asg (.n 3) hopeE)
def rg1 : Sm := (.ife (.cons (.or (.cmp .ne (.call i__law_marks (.cons (.var 0) .nil)) (.var 3)) (.or (.not (.isi (.var 0) [.own 0])) (.not (.isi (.var 0) [.verr])))) .nil) (.ret (.con (.bool false))) .skip)
def rg2 : Sm := (.ret (.cmp .eq (.bi .repr (.cons (.call i__law_held (.cons (.var 0) (.cons (.var 1) .nil))) .nil)) (.bi .repr (.cons (.var 2) .nil))))
theorem rg_eq : b__law_right = .seq rg0 (.seq rg1 rg2) := rfl
theorem ne_same {x : PyData} (h : SeqAt.shaped x = true) (hf : flat2 x x = false) : cmpV .ne (.p x) (.p x) = some false := by
  have e : eqD x x = some true := by
    unfold eqD
    rw [if_neg (by rw [hf]; decide), if_pos ⟨h, h⟩, SeqAt.eqv_refl _ (SeqAt.canLay_of_shaped h)]
  show (eqD x x).map (!·) = _
  rw [e]
  rfl
theorem eq_same (s : Str) : cmpV .eq (.p (.str s)) (.p (.str s)) = some true := by
  have e : PyData.eqv (.str s) (.str s) = true := by rw [PyData.eqv]; simp
  simp [cmpV, cmpD, eqD, flat2, e]
theorem right_of {c : Nat} {k : Int} {fs : List (Str × PyData)} {dl hp : List PyData} (wf : WFs st)
    (hm : ∀ st, execS (kitOf pg n) pg.fields b__law_marks [some (.x c fs), none] st = .rt (.p (.list hp)) st)
    (hh : ∀ st, execS (kitOf pg n) pg.fields b__law_held [some (.x c fs), some (.p (.int k))] st = .rt (.p (.list dl)) st)
    (ho : ∀ st, evalX (kitOf pg (n + 1)) hopeE [some (.x c fs), some (.p (.int k)), some (.p (.list dl)), none, none] st = .ok (.p (.list hp)) st)
    (hs : SeqAt.shaped (.list hp) = true) (h0 : ∀ st, isiAny (kitOf pg (n + 1)) st (.x c fs) [.own 0] = some true) (h1 : ∀ st, isiAny (kitOf pg (n + 1)) st (.x c fs) [.verr] = some true) (rq : Rq 51 3000 (.list dl)) :
    runF pg (n + 2) i__law_right [.x c fs, .p (.int k), .p (.list dl)] st = .ok (.p (.bool true)) st := by
  rw [run_eq f__law_right rfl rfl]
  show outB false st.length (execS (kitOf pg (n + 1)) pg.fields b__law_right [some (.x c fs), some (.p (.int k)), some (.p (.list dl)), none, none] st) = _
  have m1 : runF pg (n + 1) i__law_marks [.x c fs] st = .ok (.p (.list hp)) st := by
    rw [run_eq f__law_marks rfl rfl]
    show outB false st.length (execS (kitOf pg n) pg.fields b__law_marks [some (.x c fs), none] st) = _
    rw [hm]
    exact out_rt (L := 0) (v := .p .none) wf
  have m2 : runF pg (n + 1) i__law_held [.x c fs, .p (.int k)] st = .ok (.p (.list dl)) st := by
    rw [run_eq f__law_held rfl rfl]
    show outB false st.length (execS (kitOf pg n) pg.fields b__law_held [some (.x c fs), some (.p (.int k))] st) = _
    rw [hh]
    exact out_rt (L := 0) (v := .p .none) wf
  have ne := ne_same hs (by rfl)
  have rp : biV .repr [.p (.list dl)] st = some (.p (.str (PyData.list dl).shown)) := by
    have e := bi_repr rq (by decide) (by decide)
    simp [biV, seeM, e]
  have s1 : execS (kitOf pg (n + 1)) pg.fields rg1 [some (.x c fs), some (.p (.int k)), some (.p (.list dl)), some (.p (.list hp)), none] st = .nx [some (.x c fs), some (.p (.int k)), some (.p (.list dl)), some (.p (.list hp)), none] st := by
    simp [rg1, execS, evalT, evalX, evalL, kit_fn, m1, ne, h0, h1, truthV, truthD]
  have s2 : execS (kitOf pg (n + 1)) pg.fields rg2 [some (.x c fs), some (.p (.int k)), some (.p (.list dl)), some (.p (.list hp)), none] st = .rt (.p (.bool true)) st := by
    simp [rg2, execS, evalX, evalL, kit_fn, m2, rp, eq_same]
  rw [rg_eq, execS]
  unfold rg0
  rw [execS, ho]
  simp only [R.fl_ok]
  show outB false st.length (execS (kitOf pg (n + 1)) pg.fields (.seq rg1 rg2) [some (.x c fs), some (.p (.int k)), some (.p (.list dl)), some (.p (.list hp)), none] st) = _
  rw [execS, s1]
  simp only
  rw [s2]
  exact out_rt (L := 0) (v := .p .none) wf
end
end K13
end

section
/-! the eighteen kinds. -/
namespace K13
open PySem Vm
def hope (k : Nat) : List PyData := (List.range 18).map fun i => .bool (i == k || (decide (12 < k) && i == 12))
def dueL (d e : PyData) (k : Nat) : List PyData := if k = 14 ∨ k = 16 then [d, e] else [d]
section
variable {n : Nat} {d e : PyData}
def RowOk (n : Nat) (d e : PyData) (k c : Nat) (fs : List (Str × PyData)) : Prop := ∀ st, WFs st → runF pg (n + 2) i__law_right [.x c fs, .p (.int (k : Int)), .p (.list (dueL d e k))] st = .ok (.p (.bool true)) st
theorem rq1 {d : PyData} (h : Rq 50 1000 d) : Rq 51 3000 (.list [d]) := (Rq.lst (ds := [d]) fun x hx => by simp at hx; rw [hx]; exact h).up (by decide) (show 1 * 1002 + 3 ≤ 3000 by decide)
theorem rq2 {d e : PyData} (h : Rq 50 1000 d) (h2 : Rq 50 990 e) : Rq 51 3000 (.list [d, e]) := (Rq.lst (ds := [d, e]) (N := 50) (B := 1000) fun x hx => by
  simp at hx
  rcases hx with rfl | rfl
  · exact h
  · exact h2.up (by decide) (by decide)).up (by decide) (show 2 * 1002 + 3 ≤ 3000 by decide)
theorem hope_ok : ∀ k, k < 18 → SeqAt.shaped (.list (hope k)) = true := by decide +kernel

theorem row1 (hd : Rq 50 1000 d) (he : Rq 50 990 e) : RowOk n d e 0 1 [("name", d)] := fun st wf => right_of (k := 0) (hp := hope 0) (dl := [d]) wf (fun st => by kernel_rfl) (fun st => by kernel_rfl) (fun st => by kernel_rfl) (hope_ok 0 (by decide)) (fun st => by kernel_rfl) (fun st => by kernel_rfl) (rq1 hd)
theorem row2 (hd : Rq 50 1000 d) (he : Rq 50 990 e) : RowOk n d e 1 2 [("entry", d)] := fun st wf => right_of (k := 1) (hp := hope 1) (dl := [d]) wf (fun st => by kernel_rfl) (fun st => by kernel_rfl) (fun st => by kernel_rfl) (hope_ok 1 (by decide)) (fun st => by kernel_rfl) (fun st => by kernel_rfl) (rq1 hd)
theorem row3 (hd : Rq 50 1000 d) (he : Rq 50 990 e) : RowOk n d e 2 3 [("path", d)] := fun st wf => right_of (k := 2) (hp := hope 2) (dl := [d]) wf (fun st => by kernel_rfl) (fun st => by kernel_rfl) (fun st => by kernel_rfl) (hope_ok 2 (by decide)) (fun st => by kernel_rfl) (fun st => by kernel_rfl) (rq1 hd)
theorem row4 (hd : Rq 50 1000 d) (he : Rq 50 990 e) : RowOk n d e 3 4 [("time", d)] := fun st wf => right_of (k := 3) (hp := hope 3) (dl := [d]) wf (fun st => by kernel_rfl) (fun st => by kernel_rfl) (fun st => by kernel_rfl) (hope_ok 3 (by decide)) (fun st => by kernel_rfl) (fun st => by kernel_rfl) (rq1 hd)
theorem row5 (hd : Rq 50 1000 d) (he : Rq 50 990 e) : RowOk n d e 4 5 [("line", d)] := fun st wf => right_of (k := 4) (hp := hope 4) (dl := [d]) wf (fun st => by kernel_rfl) (fun st => by kernel_rfl) (fun st => by kernel_rfl) (hope_ok 4 (by decide)) (fun st => by kernel_rfl) (fun st => by kernel_rfl) (rq1 hd)
theorem row6 (hd : Rq 50 1000 d) (he : Rq 50 990 e) : RowOk n d e 5 6 [("index", d)] := fun st wf => right_of (k := 5) (hp := hope 5) (dl := [d]) wf (fun st => by kernel_rfl) (fun st => by kernel_rfl) (fun st => by kernel_rfl) (hope_ok 5 (by decide)) (fun st => by kernel_rfl) (fun st => by kernel_rfl) (rq1 hd)
theorem row7 (hd : Rq 50 1000 d) (he : Rq 50 990 e) : RowOk n d e 6 7 [("name", d)] := fun st wf => right_of (k := 6) (hp := hope 6) (dl := [d]) wf (fun st => by kernel_rfl) (fun st => by kernel_rfl) (fun st => by kernel_rfl) (hope_ok 6 (by decide)) (fun st => by kernel_rfl) (fun st => by kernel_rfl) (rq1 hd)
theorem row8 (hd : Rq 50 1000 d) (he : Rq 50 990 e) : RowOk n d e 7 8 [("name", d)] := fun st wf => right_of (k := 7) (hp := hope 7) (dl := [d]) wf (fun st => by kernel_rfl) (fun st => by kernel_rfl) (fun st => by kernel_rfl) (hope_ok 7 (by decide)) (fun st => by kernel_rfl) (fun st => by kernel_rfl) (rq1 hd)
theorem row9 (hd : Rq 50 1000 d) (he : Rq 50 990 e) : RowOk n d e 8 9 [("index", d)] := fun st wf => right_of (k := 8) (hp := hope 8) (dl := [d]) wf (fun st => by kernel_rfl) (fun st => by kernel_rfl) (fun st => by kernel_rfl) (hope_ok 8 (by decide)) (fun st => by kernel_rfl) (fun st => by kernel_rfl) (rq1 hd)
theorem row10 (hd : Rq 50 1000 d) (he : Rq 50 990 e) : RowOk n d e 9 10 [("reason", d)] := fun st wf => right_of (k := 9) (hp := hope 9) (dl := [d]) wf (fun st => by kernel_rfl) (fun st => by kernel_rfl) (fun st => by kernel_rfl) (hope_ok 9 (by decide)) (fun st => by kernel_rfl) (fun st => by kernel_rfl) (rq1 hd)
theorem row11 (hd : Rq 50 1000 d) (he : Rq 50 990 e) : RowOk n d e 10 11 [("index", d)] := fun st wf => right_of (k := 10) (hp := hope 10) (dl := [d]) wf (fun st => by kernel_rfl) (fun st => by kernel_rfl) (fun st => by kernel_rfl) (hope_ok 10 (by decide)) (fun st => by kernel_rfl) (fun st => by kernel_rfl) (rq1 hd)
theorem row12 (hd : Rq 50 1000 d) (he : Rq 50 990 e) : RowOk n d e 11 12 [("line", d)] := fun st wf => right_of (k := 11) (hp := hope 11) (dl := [d]) wf (fun st => by kernel_rfl) (fun st => by kernel_rfl) (fun st => by kernel_rfl) (hope_ok 11 (by decide)) (fun st => by kernel_rfl) (fun st => by kernel_rfl) (rq1 hd)
theorem row13 (hd : Rq 50 1000 d) (he : Rq 50 990 e) : RowOk n d e 12 13 [("name", d)] := fun st wf => right_of (k := 12) (hp := hope 12) (dl := [d]) wf (fun st => by kernel_rfl) (fun st => by kernel_rfl) (fun st => by kernel_rfl) (hope_ok 12 (by decide)) (fun st => by kernel_rfl) (fun st => by kernel_rfl) (rq1 hd)
theorem row14 (hd : Rq 50 1000 d) (he : Rq 50 990 e) : RowOk n d e 13 14 [("name", d)] := fun st wf => right_of (k := 13) (hp := hope 13) (dl := [d]) wf (fun st => by kernel_rfl) (fun st => by kernel_rfl) (fun st => by kernel_rfl) (hope_ok 13 (by decide)) (fun st => by kernel_rfl) (fun st => by kernel_rfl) (rq1 hd)
theorem row15 (hd : Rq 50 1000 d) (he : Rq 50 990 e) : RowOk n d e 14 15 [("word", e), ("name", d)] := fun st wf => right_of (k := 14) (hp := hope 14) (dl := [d, e]) wf (fun st => by kernel_rfl) (fun st => by kernel_rfl) (fun st => by kernel_rfl) (hope_ok 14 (by decide)) (fun st => by kernel_rfl) (fun st => by kernel_rfl) (rq2 hd he)
theorem row16 (hd : Rq 50 1000 d) (he : Rq 50 990 e) : RowOk n d e 15 16 [("name", d)] := fun st wf => right_of (k := 15) (hp := hope 15) (dl := [d]) wf (fun st => by kernel_rfl) (fun st => by kernel_rfl) (fun st => by kernel_rfl) (hope_ok 15 (by decide)) (fun st => by kernel_rfl) (fun st => by kernel_rfl) (rq1 hd)
theorem row17 (hd : Rq 50 1000 d) (he : Rq 50 990 e) : RowOk n d e 16 17 [("line", e), ("name", d)] := fun st wf => right_of (k := 16) (hp := hope 16) (dl := [d, e]) wf (fun st => by kernel_rfl) (fun st => by kernel_rfl) (fun st => by kernel_rfl) (hope_ok 16 (by decide)) (fun st => by kernel_rfl) (fun st => by kernel_rfl) (rq2 hd he)
theorem row18 (hd : Rq 50 1000 d) (he : Rq 50 990 e) : RowOk n d e 17 18 [("name", d)] := fun st wf => right_of (k := 17) (hp := hope 17) (dl := [d]) wf (fun st => by kernel_rfl) (fun st => by kernel_rfl) (fun st => by kernel_rfl) (hope_ok 17 (by decide)) (fun st => by kernel_rfl) (fun st => by kernel_rfl) (rq1 hd)
end
end K13
end

section
/-! the law. -/
namespace K13
open PySem Vm
def someE : Ex := (.lst 0 (.cons (.con (.str "a")) (.cons (.con (.str "")) (.cons (.con .none) (.cons (.con (.int 0)) (.cons (.call i__law_take (.cons (.var 1) (.cons (.con (.int 100)) .nil))) (.cons (.con (.bool true)) (.cons (.tup (.cons (.con (.int 0)) (.cons (.con (.int 3)) .nil))) (.cons (.lst 0 (.cons (.con (.int 1)) .nil)) (.cons (.dic 0 .nil) (.cons (.tup (.cons (.con (.str "a")) (.cons (.con .none) .nil))) (.cons (.neg (.con (.int 1))) (.cons (.con (.str "a.b")) .nil)))))))))))))
def u0 : Sm := (.asg (.n 3) someE)
def u1 : Sm := (.asg (.t [4, 5]) (.tup (.cons (.call i__law_pick (.cons (.var 1) (.cons (.var 3) .nil))) (.cons (.call i__law_pick (.cons (.var 1) (.cons (.var 3) .nil))) .nil))))
def rowsE : Ex := (.cat 0 (.call i__law_first_ones (.cons (.var 4) .nil)) (.call i__law_later_ones (.cons (.var 4) (.cons (.var 5) .nil))))
def u2 : Sm := (.asg (.n 6) rowsE)
def dueE : Ex := (.ite (.cmp .isin (.var 7) (.tup (.cons (.con (.int 14)) (.cons (.con (.int 16)) .nil)))) (.lst 0 (.cons (.var 4) (.cons (.var 5) .nil))) (.lst 0 (.cons (.var 4) .nil)))
def u3b : Sm := (.ife (.cons (.or (.not (.call i__law_right (.cons (.idx (.var 8) (.con (.int 0))) (.cons (.var 7) (.cons (.var 9) .nil))))) (.not (.call i__law_right (.cons (.idx (.var 8) (.con (.int 1))) (.cons (.var 7) (.cons (.var 9) .nil)))))) .nil) (.ret (.con (.bool false))) .skip)
def u3 : Sm := (.for_ [7, 8] (.enu (.var 6)) (.seq (.asg (.n 9) dueE) u3b))
def u4 : Sm := (.ife (.cons (.cmp .ne (.call i__law_caught (.cons (.var 4) .nil)) (.con (.int 3))) .nil) (.ret (.con (.bool false))) .skip)
def uT : Sm := .seq u0 (.seq u1 (.seq u2 (.seq u3 u4)))
theorem law_eq : b_law = .seq (.asg (.n 1) (.call i__law_begin (.cons (.var 0) .nil))) (.seq (.for_ [2] (.rng (.con (.int 0)) (.bin .add (.con (.int 3)) (.bi .min2 (.cons (.bi .len (.cons (.var 0) .nil)) (.cons (.con (.int 10)) .nil))))) uT) (.ret (.con (.bool true)))) := rfl
def rqB (d : PyData) : Bool := d.showable && decide (d.depth ≤ 50) && decide (d.shown.length ≤ 990)
theorem rqB_ok {d : PyData} (h : rqB d = true) : Rq 50 990 d := by
  unfold rqB at h
  simp only [Bool.and_eq_true, decide_eq_true_eq] at h
  exact ⟨h.1.1, h.1.2, h.2⟩
def someL (j : Int) : List PyData := [.str "a", .str "", .none, .int 0, .int j, .bool true, .tuple [.int 0, .int 3], .list [.int 1], .dict [], .tuple [.str "a", .none], .int (-1), .str "a.b"]
theorem small_ok : ∀ k : Nat, k < 100 → rqB (.int (k : Int)) = true := by
  have h : (List.range 100).all (fun k => rqB (.int (k : Int))) = true := by decide +kernel
  exact fun k hk => List.all_eq_true.mp h k (List.mem_range.mpr hk)
theorem some_ok {j : Int} (h0 : 0 ≤ j) (h1 : j < 100) : ∀ d ∈ someL j, Rq 50 990 d := by
  obtain ⟨k, rfl⟩ : ∃ k : Nat, j = (k : Int) := ⟨j.toNat, by omega⟩
  have hk := small_ok k (by omega)
  intro d hd
  refine rqB_ok ?_
  unfold someL at hd
  simp only [List.mem_cons, List.not_mem_nil, or_false] at hd
  rcases hd with rfl | rfl | rfl | rfl | rfl | rfl | rfl | rfl | rfl | rfl | rfl | rfl
  case inr.inr.inr.inr.inl => exact hk
  all_goals decide +kernel
section
variable {n kd L : Nat} {s : Store} {D : FK} {scr : Val} {x2 x3 x4 x5 x6 x7 x8 x9 : Option Val} {d e : PyData}
theorem x_some {Q : Val → Store → Prop} {E : EK} (Ds : DS kd L s) (q : ∀ j s', 0 ≤ j → j < 100 → DS kd L s' → Q (.p (.list (someL j))) s') : wpR (evalX (kitOf pg (n + 3)) someE [some scr, some (.r kd), x2, x3, x4, x5, x6, x7, x8, x9] s) Q E := by
  unfold someE
  refine x_lst (l_cons (x_con (l_cons (x_con (l_cons (x_con (l_cons (x_con (l_cons (x_take (n := n + 2) (size := 100) Ds rfl is_con (by decide) (by decide) fun j s1 j0 j1 D1 => ?_))))))))))
  have e1 : ∀ env, evalL (kitOf pg (n + 3)) (.cons (.con (.bool true)) (.cons (.tup (.cons (.con (.int 0)) (.cons (.con (.int 3)) .nil))) (.cons (.lst 0 (.cons (.con (.int 1)) .nil)) (.cons (.dic 0 .nil) (.cons (.tup (.cons (.con (.str "a")) (.cons (.con .none) .nil))) (.cons (.neg (.con (.int 1))) (.cons (.con (.str "a.b")) .nil))))))) env s1 = .ok [.p (.bool true), .p (.tuple [.int 0, .int 3]), .p (.list [.int 1]), .p (.dict []), .p (.tuple [.str "a", .none]), .p (.int (-1)), .p (.str "a.b")] s1 := fun env => by kernel_rfl
  refine wp_eq (e1 _) ⟨show 12 ≤ SZ by decide, ?_⟩
  exact q j s1 j0 j1 D1
def Fits (n : Nat) (d e : PyData) (v : Val) : Prop := ∃ (k c : Nat) (fs : List (Str × PyData)), v = .t [.p (.int (k : Int)), pr c fs] ∧ RowOk n d e k c fs ∧ ∀ scr r x2 x3 x6 x9 s, evalX (kitOf pg (n + 2)) dueE [scr, r, x2, x3, some (.p d), some (.p e), x6, some (.p (.int (k : Int))), some (pr c fs), x9] s = .ok (.p (.list (dueL d e k))) s
theorem fits_all (hd : Rq 50 1000 d) (he : Rq 50 990 e) : ∀ v ∈ enumV 0 (rowsA d ++ rowsB d e), Fits n d e v := by
  have z : enumV 0 (rowsA d ++ rowsB d e) = [.t [.p (.int 0), pr 1 [("name", d)]], .t [.p (.int 1), pr 2 [("entry", d)]], .t [.p (.int 2), pr 3 [("path", d)]], .t [.p (.int 3), pr 4 [("time", d)]], .t [.p (.int 4), pr 5 [("line", d)]], .t [.p (.int 5), pr 6 [("index", d)]], .t [.p (.int 6), pr 7 [("name", d)]], .t [.p (.int 7), pr 8 [("name", d)]], .t [.p (.int 8), pr 9 [("index", d)]], .t [.p (.int 9), pr 10 [("reason", d)]], .t [.p (.int 10), pr 11 [("index", d)]], .t [.p (.int 11), pr 12 [("line", d)]],
    .t [.p (.int 12), pr 13 [("name", d)]], .t [.p (.int 13), pr 14 [("name", d)]], .t [.p (.int 14), pr 15 [("word", e), ("name", d)]], .t [.p (.int 15), pr 16 [("name", d)]], .t [.p (.int 16), pr 17 [("line", e), ("name", d)]], .t [.p (.int 17), pr 18 [("name", d)]]] := by kernel_rfl
  rw [z]
  intro v hv
  simp only [List.mem_cons, List.not_mem_nil, or_false] at hv
  rcases hv with rfl | rfl | rfl | rfl | rfl | rfl | rfl | rfl | rfl | rfl | rfl | rfl | rfl | rfl | rfl | rfl | rfl | rfl
  · exact ⟨0, _, _, rfl, row1 hd he, fun scr r x2 x3 x6 x9 s => by kernel_rfl⟩
  · exact ⟨1, _, _, rfl, row2 hd he, fun scr r x2 x3 x6 x9 s => by kernel_rfl⟩
  · exact ⟨2, _, _, rfl, row3 hd he, fun scr r x2 x3 x6 x9 s => by kernel_rfl⟩
  · exact ⟨3, _, _, rfl, row4 hd he, fun scr r x2 x3 x6 x9 s => by kernel_rfl⟩
  · exact ⟨4, _, _, rfl, row5 hd he, fun scr r x2 x3 x6 x9 s => by kernel_rfl⟩
  · exact ⟨5, _, _, rfl, row6 hd he, fun scr r x2 x3 x6 x9 s => by kernel_rfl⟩
  · exact ⟨6, _, _, rfl, row7 hd he, fun scr r x2 x3 x6 x9 s => by kernel_rfl⟩
  · exact ⟨7, _, _, rfl, row8 hd he, fun scr r x2 x3 x6 x9 s => by kernel_rfl⟩
  · exact ⟨8, _, _, rfl, row9 hd he, fun scr r x2 x3 x6 x9 s => by kernel_rfl⟩
  · exact ⟨9, _, _, rfl, row10 hd he, fun scr r x2 x3 x6 x9 s => by kernel_rfl⟩
  · exact ⟨10, _, _, rfl, row11 hd he, fun scr r x2 x3 x6 x9 s => by kernel_rfl⟩
  · exact ⟨11, _, _, rfl, row12 hd he, fun scr r x2 x3 x6 x9 s => by kernel_rfl⟩
  · exact ⟨12, _, _, rfl, row13 hd he, fun scr r x2 x3 x6 x9 s => by kernel_rfl⟩
  · exact ⟨13, _, _, rfl, row14 hd he, fun scr r x2 x3 x6 x9 s => by kernel_rfl⟩
  · exact ⟨14, _, _, rfl, row15 hd he, fun scr r x2 x3 x6 x9 s => by kernel_rfl⟩
  · exact ⟨15, _, _, rfl, row16 hd he, fun scr r x2 x3 x6 x9 s => by kernel_rfl⟩
  · exact ⟨16, _, _, rfl, row17 hd he, fun scr r x2 x3 x6 x9 s => by kernel_rfl⟩
  · exact ⟨17, _, _, rfl, row18 hd he, fun scr r x2 x3 x6 x9 s => by kernel_rfl⟩
theorem turn_ok (Ds : DS kd L s) (q : ∀ x3 x4 x5 x6 x7 x8 x9 s', DS kd L s' → D.nx [some scr, some (.r kd), x2, x3, x4, x5, x6, x7, x8, x9] s') : wpF (execS (kitOf pg (n + 3)) pg.fields uT [some scr, some (.r kd), x2, x3, x4, x5, x6, x7, x8, x9] s) D := by
  unfold uT
  refine s_seq (s_asg (x_some Ds fun j s1 j0 j1 D1 => ?_))
  have sk := some_ok j0 j1
  have sl : (someL j).length ≤ 1000 := by show 12 ≤ 1000; decide
  have sn : someL j ≠ [] := by unfold someL; simp
  show wpF (execS (kitOf pg (n + 3)) pg.fields (.seq u1 (.seq u2 (.seq u3 u4))) [some scr, some (.r kd), x2, some (.p (.list (someL j))), x4, x5, x6, x7, x8, x9] s1) D
  generalize someL j = sl0 at sk sl sn
  refine s_seq (s_asgT (x_tup (l_cons (x_pick (n := n + 1) (ds := sl0) D1 rfl (by rw [evalX]; rfl) sn sl fun d hd s2 D2 => l_cons (x_pick (n := n + 1) (ds := sl0) D2 rfl (by rw [evalX]; rfl) sn sl fun e he s3 D3 => l_nil ⟨show 2 ≤ SZ by decide, ?_⟩)))))
  refine wpO_of (a := [some scr, some (.r kd), x2, some (.p (.list sl0)), some (.p d), some (.p e), x6, x7, x8, x9]) rfl ?_
  have rd := (sk d hd).up (Nat.le_refl 50) (show 990 ≤ 1000 by decide)
  have re := sk e he
  have wf := D3.wf
  have f1 := r_first (n := n + 2) (d := d) wf
  have f2 := r_later (n := n + 2) (d := d) (e := e) wf
  have f3 := r_caught (n := n + 2) (d := d) wf
  have fa := fits_all (n := n + 1) rd re
  show wpF (execS (kitOf pg (n + 3)) pg.fields (.seq u2 (.seq u3 u4)) [some scr, some (.r kd), x2, some (.p (.list sl0)), some (.p d), some (.p e), x6, x7, x8, x9] s3) D
  have z : SZ = 16777216 := rfl
  have mk : mkL (rowsA d ++ rowsB d e) = .l (rowsA d ++ rowsB d e) := by kernel_rfl
  have ll : (rowsA d).length + (rowsB d e).length ≤ 16777216 := by show 18 ≤ 16777216; decide
  have g2 : evalX (kitOf pg (n + 3)) rowsE [some scr, some (.r kd), x2, some (.p (.list sl0)), some (.p d), some (.p e), x6, x7, x8, x9] s3 = .ok (.l (rowsA d ++ rowsB d e)) s3 := by
    unfold rowsE
    simp [evalX, evalL, kit_fn, f1, f2, seqL, see, z, ll, Vm.alloc, mk]
  unfold u2
  refine s_seq (s_asg (wp_eq g2 ?_))
  show wpF (execS (kitOf pg (n + 3)) pg.fields (.seq u3 u4) [some scr, some (.r kd), x2, some (.p (.list sl0)), some (.p d), some (.p e), some (.l (rowsA d ++ rowsB d e)), x7, x8, x9] s3) D
  unfold u3
  refine s_seq (s_for (fun items env s => s = s3 ∧ (∃ x7 x8 x9, env = [some scr, some (.r kd), x2, some (.p (.list sl0)), some (.p d), some (.p e), some (.l (rowsA d ++ rowsB d e)), x7, x8, x9]) ∧ ∀ v ∈ items, Fits (n + 1) d e v) ?_ ?_ ?_)
  · refine wp_eq (v := enumV 0 (rowsA d ++ rowsB d e)) (st := s3) ?_ ⟨rfl, ⟨_, _, _, rfl⟩, fa⟩
    rw [evalI, evalX]
    rfl
  · rintro v vs env s4 ⟨rfl, ⟨x7, x8, x9, rfl⟩, hf⟩
    obtain ⟨k, c, fs, rfl, ro, du⟩ := hf v (by simp)
    refine wpO_of (a := [some scr, some (.r kd), x2, some (.p (.list sl0)), some (.p d), some (.p e), some (.l (rowsA d ++ rowsB d e)), some (.p (.int (k : Int))), some (pr c fs), x9]) rfl ?_
    refine s_seq (s_asg (wp_eq (du _ _ _ _ _ _ _) ?_))
    have r1 := ro s4 wf
    have i0 : idxV s4 (pr c fs) (.p (.int 0)) = some (.x c fs) := rfl
    have i1 : idxV s4 (pr c fs) (.p (.int 1)) = some (.x c fs) := rfl
    have st : execS (kitOf pg (n + 3)) pg.fields u3b [some scr, some (.r kd), x2, some (.p (.list sl0)), some (.p d), some (.p e), some (.l (rowsA d ++ rowsB d e)), some (.p (.int (k : Int))), some (pr c fs), some (.p (.list (dueL d e k)))] s4 = .nx [some scr, some (.r kd), x2, some (.p (.list sl0)), some (.p d), some (.p e), some (.l (rowsA d ++ rowsB d e)), some (.p (.int (k : Int))), some (pr c fs), some (.p (.list (dueL d e k)))] s4 := by
      simp [u3b, execS, evalT, evalX, evalL, kit_fn, i0, i1, r1, truthV, truthD]
    show wpF (execS (kitOf pg (n + 3)) pg.fields u3b [some scr, some (.r kd), x2, some (.p (.list sl0)), some (.p d), some (.p e), some (.l (rowsA d ++ rowsB d e)), some (.p (.int (k : Int))), some (pr c fs), some (.p (.list (dueL d e k)))] s4) _
    rw [st]
    exact ⟨rfl, ⟨_, _, _, rfl⟩, fun v hv => hf v (by simp [hv])⟩
  · rintro env s4 ⟨rfl, ⟨x7, x8, x9, rfl⟩, _⟩
    have ne : cmpV .ne (.p (.int 3)) (.p (.int 3)) = some false := by rfl
    have st : execS (kitOf pg (n + 3)) pg.fields u4 [some scr, some (.r kd), x2, some (.p (.list sl0)), some (.p d), some (.p e), some (.l (rowsA d ++ rowsB d e)), x7, x8, x9] s4 = .nx [some scr, some (.r kd), x2, some (.p (.list sl0)), some (.p d), some (.p e), some (.l (rowsA d ++ rowsB d e)), x7, x8, x9] s4 := by
      simp [u4, execS, evalT, evalX, evalL, kit_fn, f3, ne, truthV, truthD]
    show wpF (execS (kitOf pg (n + 3)) pg.fields u4 [some scr, some (.r kd), x2, some (.p (.list sl0)), some (.p d), some (.p e), some (.l (rowsA d ++ rowsB d e)), x7, x8, x9] s4) _
    rw [st]
    exact q _ _ _ _ _ _ _ s4 D3
end
end K13
end

section
/-! the law, whole. -/
namespace K13
open PySem Vm
theorem law_key {n : Nat} {ns : List Int} (hn : ns.length ≤ 63) : wpF (execS (kitOf pg (n + 3)) pg.fields b_law [some (.p (.list (ns.map .int))), none, none, none, none, none, none, none, none, none] []) { nx := fun _ _ => False, rt := fun v s => v = .p (.bool true) } := by
  rw [law_eq]
  refine s_seq (s_asg (x_call (l_cons (x_var rfl (l_nil (wpR.any (g_begin hn) ?_))))))
  rintro v s ⟨kd, L, rfl, D⟩
  generalize hl : PyData.list (ns.map .int) = scr at *
  refine s_seq (s_for (fun items e s => DS kd L s ∧ ∃ x2 x3 x4 x5 x6 x7 x8 x9, e = [some (.p scr), some (.r kd), x2, x3, x4, x5, x6, x7, x8, x9]) (i_rngJ ?_) ?_ ?_)
  · have c1 := is_add (K := kitOf pg (n + 3)) (env := [some (.p scr), some (.r kd), none, none, none, none, none, none, none, none]) (st := s) (is_con (d := .int 3)) (is_min (len_list (is_var (i := 0) (by rw [← hl]; rfl))) (is_con (d := .int 10)))
    refine c1.wp ⟨_, rfl, ?_, ?_, fun items _ => ⟨D, _, _, _, _, _, _, _, _, rfl⟩⟩
    · split <;> omega
    · split <;> omega
  · rintro v vs e s2 ⟨D2, x2, x3, x4, x5, x6, x7, x8, x9, rfl⟩
    refine wpO_of (a := [some (Val.p scr), some (Val.r kd), some v, x3, x4, x5, x6, x7, x8, x9]) rfl ?_
    refine turn_ok (n := n) (kd := kd) (L := L) (scr := Val.p scr) (x2 := some v) (x3 := x3) (x4 := x4) (x5 := x5) (x6 := x6) (x7 := x7) (x8 := x8) (x9 := x9) D2 ?_
    intro y3 y4 y5 y6 y7 y8 y9 s' D'
    exact ⟨D', some v, y3, y4, y5, y6, y7, y8, y9, rfl⟩
  · rintro e s2 ⟨D2, x2, x3, x4, x5, x6, x7, x8, x9, rfl⟩
    show wpF (execS (kitOf pg (n + 3)) pg.fields (.ret (.con (.bool true))) [some (.p scr), some (.r kd), x2, x3, x4, x5, x6, x7, x8, x9] s2) { nx := fun _ _ => False, rt := fun v s => v = .p (.bool true) }
    exact s_ret (x_con rfl)
theorem law_ok {n : Nat} {ns : List Int} (hn : ns.length ≤ 63) : ∃ st, runF pg (n + 4) i_law [.p (.list (ns.map .int))] [] = .ok (.p (.bool true)) st := by
  have key := law_key (n := n) hn
  rw [run_eq f_law rfl rfl]
  show ∃ st, outB false 0 (execS (kitOf pg (n + 3)) pg.fields b_law [some (.p (.list (ns.map .int))), none, none, none, none, none, none, none, none, none] []) = .ok (.p (.bool true)) st
  revert key
  cases execS (kitOf pg (n + 3)) pg.fields b_law [some (.p (.list (ns.map .int))), none, none, none, none, none, none, none, none, none] [] with
  | nx e1 s => exact fun h => h.elim
  | rt v s =>
    intro h
    have h : v = .p (.bool true) := h
    subst h
    exact ⟨[], rfl⟩
  | er c fs e1 s => exact fun h => h.elim
  | bk e1 s => exact fun h => h.elim
  | ct e1 s => exact fun h => h.elim
  | no => exact fun h => h.elim
end K13
end

section
namespace K13
open PySem PySem.Spec PyProof.Rows L2 Vm
theorem fin (fuel : Nat) (hf : fuel ≤ 70) (plain : ∀ ns : List Int, ns.length ≤ 63 → ∃ st, runF pg fuel iLaw [.p (.list (ns.map .int))] [] = .ok (.p (.bool true)) st) : RW.Holds := by
  open PySem.W PySem.Calls in
  w_on; o_law
  refine HandSHeadRun.head_any (r := R) (q := PySem.W.view R.prog [30]) (H := hk) (ob := ob) (M := 20000) (loose := nms) (d := HandSHeadRun.topDef R.prog 30) (kwd := []) ob_eq
    (by kernel_rfl) (fun s => by kernel_rfl) run (by kernel_rfl) (by kernel_rfl) (by kernel_rfl) (by rfl) (by first | assumption | decide +kernel) (by decide +kernel) ⟨rfl, rfl, rfl, rfl, rfl, by decide +kernel⟩ ?hw ?hc
  case hw => w_witness2
  case hc =>
    refine walk_ofW (l := RW) (n := 63) (k := 3 * fuel + 3) (x := "_law_script") rfl (by decide) (by kernel_rfl) ⟨rfl, by show 1 + claimMargin + 3 * (3 * fuel + 3) + 5 < 1000; have : claimMargin ≤ 300 := (by decide); omega, by show 4 + 16 * (3 * fuel + 3) + 200 < 9900; omega⟩ ?F
    intro w mg fa h Y G hmg0
    obtain ⟨K, KX, sw⟩ := Y
    exact law_end (t := ft9) (i := iLaw) ⟨pgok, look, kws, kwl, kwx, KX, G, sw.v⟩ sw rfl hmg0 rfl (by decide +kernel) plain
end K13
end
theorem PySem.Challenge.cw_modcore_k13_errors_holds : PySem.Challenge.rw_modcore_k13_errors.Holds :=
  K13.fin 20 (by decide) fun ns h => K13.law_ok (n := 16) h
